import PyProof.Rows.All
import Wide.All
import OpenK.AllK
import Wide.FinOn
import HandS.Words
import KE.KStateDown
import HandS.ForMost
import HandS.Defaults
import HandS.Head0
import HandS.Head1
import HandS.Head2
import HandS.HeadEnd
import HandS.HeadHook1
import HandS.HeadHook2
import HandS.IsInst
import HandS.Walk
import HandS.Deep
import KE.SortKeyHeap
import KE.DataMinKey
import HandS.SortKw
import HandS.TupAny
import HandS.Keys
import HandS.Exc
import HandS.TupSets
import HandS.MakeKwOnly
import PyProof.Draws
import KE.GoesMore
import HandS.Base
import PySem.Challenge.RW_joinedtrees_k56_whole_no_fewer_moves

section
set_option Elab.async false
set_option linter.all false
/-! Trees of two-way forks over numbers; restriction; putting beside; apartness of two lots' ways. Plain Lean. -/
namespace Jt

inductive Tr where
  | lf (i : Nat)
  | fk (a b : Tr)
  deriving DecidableEq

namespace Tr
def nm : Tr → List Nat
  | lf i => [i]
  | fk a b => a.nm ++ b.nm
def fst : Tr → Nat
  | lf i => i
  | fk a _ => a.fst
def ok : Tr → Prop
  | lf _ => True
  | fk a b => a.ok ∧ b.ok ∧ a.fst < b.fst ∧ ∀ x, x ∈ a.nm → x ∈ b.nm → False
def subs : Tr → List Tr
  | lf i => [lf i]
  | fk a b => fk a b :: (a.subs ++ b.subs)
def sz : Tr → Nat
  | lf _ => 1
  | fk a b => a.sz + b.sz + 1
end Tr
open Tr

/-- the fork of two trees, in their order -/
def mk (a b : Tr) : Tr := if b.fst < a.fst then fk b a else fk a b
def Disj (a b : Tr) : Prop := ∀ x, x ∈ a.nm → x ∈ b.nm → False
def mt (p : Nat → Bool) (t : Tr) : Bool := t.nm.any p
def comb : Option Tr → Option Tr → Option Tr
  | some x, some y => some (mk x y)
  | some x, none => some x
  | none, y => y
/-- a tree to some of its names -/
def res (p : Nat → Bool) : Tr → Option Tr
  | lf i => if p i then some (lf i) else none
  | fk a b => comb (res p a) (res p b)

theorem Disj.symm {a b : Tr} (h : Disj a b) : Disj b a := fun x h1 h2 => h x h2 h1
theorem fst_mem : ∀ t : Tr, t.fst ∈ t.nm
  | lf i => by simp [Tr.fst, Tr.nm]
  | fk a b => by
    have := fst_mem a
    simp [Tr.fst, Tr.nm, this]
theorem Disj.fst_ne {a b : Tr} (h : Disj a b) : a.fst ≠ b.fst := fun e => h _ (fst_mem a) (by rw [e]; exact fst_mem b)
theorem ok_disj {a b : Tr} (h : (fk a b).ok) : Disj a b := h.2.2.2
theorem fst_le : ∀ {t : Tr}, t.ok → ∀ x ∈ t.nm, t.fst ≤ x
  | lf i, _, x, hx => by simp [Tr.nm] at hx; simp [Tr.fst, hx]
  | fk a b, h, x, hx => by
    obtain ⟨h1, h2, h3, _⟩ := h
    rcases List.mem_append.mp hx with hx | hx
    · exact fst_le h1 x hx
    · have := fst_le h2 x hx
      show a.fst ≤ x
      omega
theorem nm_mk (a b : Tr) (x : Nat) : x ∈ (mk a b).nm ↔ x ∈ a.nm ∨ x ∈ b.nm := by
  unfold mk
  split <;> simp [Tr.nm, or_comm]
theorem mk_comm {a b : Tr} (h : Disj a b) : mk a b = mk b a := by
  have := h.fst_ne
  unfold mk
  by_cases h1 : b.fst < a.fst
  · rw [if_pos h1, if_neg (by omega)]
  · rw [if_neg h1, if_pos (by omega)]
theorem mk_or (a b : Tr) : mk a b = fk a b ∨ mk a b = fk b a := by
  unfold mk
  split
  · exact .inr rfl
  · exact .inl rfl
theorem mk_eq {a b : Tr} (h : (fk a b).ok) : mk a b = fk a b := by
  unfold mk
  rw [if_neg (by have := h.2.2.1; omega)]
theorem ok_mk {a b : Tr} (ha : a.ok) (hb : b.ok) (h : Disj a b) : (mk a b).ok := by
  have := h.fst_ne
  unfold mk
  by_cases h1 : b.fst < a.fst
  · rw [if_pos h1]; exact ⟨hb, ha, h1, h.symm⟩
  · rw [if_neg h1]; exact ⟨ha, hb, by omega, h⟩
theorem comb_comm {x y : Option Tr} (h : ∀ a b, x = some a → y = some b → Disj a b) : comb x y = comb y x := by
  cases x with
  | none => cases y <;> rfl
  | some a =>
    cases y with
    | none => rfl
    | some b => show some (mk a b) = some (mk b a); rw [mk_comm (h a b rfl rfl)]

/-! ### meeting -/
theorem mt_lf (p : Nat → Bool) (i : Nat) : mt p (lf i) = p i := by simp [mt, Tr.nm]
theorem mt_fk (p : Nat → Bool) (a b : Tr) : mt p (fk a b) = (mt p a || mt p b) := by simp [mt, Tr.nm]
theorem mt_mk (p : Nat → Bool) (a b : Tr) : mt p (mk a b) = (mt p a || mt p b) := by
  rcases mk_or a b with e | e <;> rw [e, mt_fk]
  exact Bool.or_comm _ _
theorem mt_true {p : Nat → Bool} {t : Tr} : mt p t = true ↔ ∃ x ∈ t.nm, p x = true := by simp [mt]
theorem mt_false {p : Nat → Bool} {t : Tr} : mt p t = false ↔ ∀ x ∈ t.nm, p x = false := by simp [mt]
theorem mt_congr {p q : Nat → Bool} {t : Tr} (h : ∀ x ∈ t.nm, p x = q x) : mt p t = mt q t := by
  unfold mt
  rw [Bool.eq_iff_iff]
  simp only [List.any_eq_true]
  constructor
  · rintro ⟨x, hx, h1⟩; exact ⟨x, hx, by rw [← h x hx]; exact h1⟩
  · rintro ⟨x, hx, h1⟩; exact ⟨x, hx, by rw [h x hx]; exact h1⟩

/-! ### restriction -/
theorem comb_none {x y : Option Tr} : comb x y = none ↔ x = none ∧ y = none := by
  cases x <;> cases y <;> simp [comb]
theorem res_none {p : Nat → Bool} : ∀ {t : Tr}, res p t = none ↔ mt p t = false
  | lf i => by
    rw [mt_lf]
    unfold res
    cases p i <;> simp
  | fk a b => by
    show comb (res p a) (res p b) = none ↔ _
    rw [comb_none, res_none, res_none, mt_fk]
    cases mt p a <;> cases mt p b <;> simp
theorem res_some_of {p : Nat → Bool} {t : Tr} (h : mt p t = true) : ∃ t', res p t = some t' := by
  cases e : res p t with
  | none => rw [res_none.mp e] at h; cases h
  | some t' => exact ⟨t', rfl⟩
theorem res_mt {p : Nat → Bool} {t t' : Tr} (h : res p t = some t') : mt p t = true := by
  cases e : mt p t with
  | true => rfl
  | false => rw [res_none.mpr e] at h; cases h
theorem res_mem {p : Nat → Bool} : ∀ {t t' : Tr}, res p t = some t' → ∀ x, x ∈ t'.nm ↔ x ∈ t.nm ∧ p x = true
  | lf i, t', h, x => by
    unfold res at h
    split at h
    · rename_i hp
      cases h
      simp only [Tr.nm, List.mem_singleton]
      constructor
      · intro e; subst e; exact ⟨rfl, hp⟩
      · exact fun e => e.1
    · cases h
  | fk a b, t', h, x => by
    have h : comb (res p a) (res p b) = some t' := h
    have na : res p a = none → x ∈ a.nm → p x = true → False := fun e h1 h2 => by
      have := mt_false.mp (res_none.mp e) x h1
      rw [this] at h2; cases h2
    have nb : res p b = none → x ∈ b.nm → p x = true → False := fun e h1 h2 => by
      have := mt_false.mp (res_none.mp e) x h1
      rw [this] at h2; cases h2
    cases ea : res p a with
    | none =>
      cases eb : res p b with
      | none => rw [ea, eb] at h; cases h
      | some y =>
        rw [ea, eb] at h; cases h
        rw [res_mem eb, Tr.nm, List.mem_append]
        constructor
        · exact fun h => ⟨.inr h.1, h.2⟩
        · rintro ⟨h1 | h1, h2⟩
          · exact (na ea h1 h2).elim
          · exact ⟨h1, h2⟩
    | some x' =>
      cases eb : res p b with
      | none =>
        rw [ea, eb] at h; cases h
        rw [res_mem ea, Tr.nm, List.mem_append]
        constructor
        · exact fun h => ⟨.inl h.1, h.2⟩
        · rintro ⟨h1 | h1, h2⟩
          · exact ⟨h1, h2⟩
          · exact (nb eb h1 h2).elim
      | some y =>
        rw [ea, eb] at h; cases h
        rw [nm_mk, res_mem ea, res_mem eb, Tr.nm, List.mem_append]
        constructor
        · rintro (h | h)
          · exact ⟨.inl h.1, h.2⟩
          · exact ⟨.inr h.1, h.2⟩
        · rintro ⟨h1 | h1, h2⟩
          · exact .inl ⟨h1, h2⟩
          · exact .inr ⟨h1, h2⟩
theorem res_disj {p q : Nat → Bool} {a b x y : Tr} (h : Disj a b) (ha : res p a = some x) (hb : res q b = some y) : Disj x y :=
  fun z h1 h2 => h z ((res_mem ha z).mp h1).1 ((res_mem hb z).mp h2).1
theorem res_mk {p : Nat → Bool} {a b : Tr} (h : Disj a b) : res p (mk a b) = comb (res p a) (res p b) := by
  rcases mk_or a b with e | e <;> rw [e]
  · rfl
  · exact comb_comm fun x y hx hy => res_disj h.symm hx hy
theorem res_ok {p : Nat → Bool} : ∀ {t t' : Tr}, t.ok → res p t = some t' → t'.ok
  | lf i, t', _, h => by
    unfold res at h
    split at h
    · cases h; exact trivial
    · cases h
  | fk a b, t', hok, h => by
    have h : comb (res p a) (res p b) = some t' := h
    cases ea : res p a with
    | none =>
      rw [ea] at h
      exact res_ok hok.2.1 h
    | some x =>
      cases eb : res p b with
      | none => rw [ea, eb] at h; cases h; exact res_ok hok.1 ea
      | some y =>
        rw [ea, eb] at h; cases h
        exact ok_mk (res_ok hok.1 ea) (res_ok hok.2.1 eb) (res_disj (ok_disj hok) ea eb)
theorem res_congr {p q : Nat → Bool} : ∀ {t : Tr}, (∀ x ∈ t.nm, p x = q x) → res p t = res q t
  | lf i, h => by
    unfold res
    rw [h i (by simp [Tr.nm])]
  | fk a b, h => by
    show comb (res p a) (res p b) = comb (res q a) (res q b)
    rw [res_congr fun x hx => h x (List.mem_append_left _ hx), res_congr fun x hx => h x (List.mem_append_right _ hx)]
theorem res_all {p : Nat → Bool} : ∀ {t : Tr}, t.ok → (∀ x ∈ t.nm, p x = true) → res p t = some t
  | lf i, _, h => by
    unfold res
    rw [h i (by simp [Tr.nm]), if_pos rfl]
  | fk a b, hok, h => by
    show comb (res p a) (res p b) = _
    rw [res_all hok.1 fun x hx => h x (List.mem_append_left _ hx), res_all hok.2.1 fun x hx => h x (List.mem_append_right _ hx)]
    show some (mk a b) = _
    rw [mk_eq hok]
theorem comb_bind {p : Nat → Bool} {x y : Option Tr} (h : ∀ a b, x = some a → y = some b → Disj a b) : (comb x y).bind (res p) = comb (x.bind (res p)) (y.bind (res p)) := by
  cases x with
  | none => cases y <;> rfl
  | some a =>
    cases y with
    | none =>
      show res p a = comb (res p a) none
      cases res p a <;> rfl
    | some b => exact res_mk (h a b rfl rfl)
theorem res_res {p q : Nat → Bool} : ∀ {t : Tr}, t.ok → (res p t).bind (res q) = res (fun x => p x && q x) t
  | lf i, _ => by
    unfold res
    cases hp : p i
    · simp
    · simp [res]
  | fk a b, hok => by
    show (comb (res p a) (res p b)).bind (res q) = comb _ _
    rw [comb_bind fun x y hx hy => res_disj (ok_disj hok) hx hy, res_res hok.1, res_res hok.2.1]
/-- the same to fewer names -/
theorem res_sub {p q : Nat → Bool} {t u : Tr} (ht : t.ok) (hu : u.ok) (h : res p t = res p u) (hq : ∀ x, q x = true → p x = true) : res q t = res q u := by
  have e : (fun x => p x && q x) = q := by
    funext x
    cases hx : q x
    · simp
    · simp [hq x hx]
  have h1 := res_res (q := q) (p := p) ht
  have h2 := res_res (q := q) (p := p) hu
  rw [e] at h1 h2
  rw [← h1, ← h2, h]

/-! ### subtrees -/
theorem self_sub (t : Tr) : t ∈ t.subs := by cases t <;> simp [Tr.subs]
theorem sub_fk {S a b : Tr} : S ∈ (fk a b).subs ↔ S = fk a b ∨ S ∈ a.subs ∨ S ∈ b.subs := by simp [Tr.subs]
theorem sub_mk {S a b : Tr} : S ∈ (mk a b).subs ↔ S = mk a b ∨ S ∈ a.subs ∨ S ∈ b.subs := by
  rcases mk_or a b with e | e <;> rw [e, sub_fk]
  constructor
  · rintro (h | h | h)
    · exact .inl h
    · exact .inr (.inr h)
    · exact .inr (.inl h)
  · rintro (h | h | h)
    · exact .inl h
    · exact .inr (.inr h)
    · exact .inr (.inl h)
theorem sub_nm {S : Tr} : ∀ {t : Tr}, S ∈ t.subs → ∀ x ∈ S.nm, x ∈ t.nm
  | lf i, h, x, hx => by
    simp [Tr.subs] at h; subst h; exact hx
  | fk a b, h, x, hx => by
    rcases sub_fk.mp h with h | h | h
    · subst h; exact hx
    · exact List.mem_append_left _ (sub_nm h x hx)
    · exact List.mem_append_right _ (sub_nm h x hx)
theorem sub_ok {S : Tr} : ∀ {t : Tr}, t.ok → S ∈ t.subs → S.ok
  | lf i, h, hs => by simp [Tr.subs] at hs; subst hs; exact h
  | fk a b, h, hs => by
    rcases sub_fk.mp hs with e | hs | hs
    · subst e; exact h
    · exact sub_ok h.1 hs
    · exact sub_ok h.2.1 hs
theorem sub_sz {S : Tr} : ∀ {t : Tr}, S ∈ t.subs → S.sz ≤ t.sz
  | lf i, h => by simp [Tr.subs] at h; subst h; exact Nat.le_refl _
  | fk a b, h => by
    rcases sub_fk.mp h with h | h | h
    · subst h; exact Nat.le_refl _
    · have := sub_sz h; simp only [Tr.sz]; omega
    · have := sub_sz h; simp only [Tr.sz]; omega
theorem sub_trans {R S : Tr} : ∀ {t : Tr}, R ∈ S.subs → S ∈ t.subs → R ∈ t.subs
  | lf i, h1, h2 => by simp [Tr.subs] at h2; subst h2; exact h1
  | fk a b, h1, h2 => by
    rcases sub_fk.mp h2 with h | h | h
    · subst h; exact h1
    · exact sub_fk.mpr (.inr (.inl (sub_trans h1 h)))
    · exact sub_fk.mpr (.inr (.inr (sub_trans h1 h)))
/-- two subtrees of one tree with a name in common lie one in the other -/
theorem sub_nest {S R : Tr} : ∀ {t : Tr}, t.ok → S ∈ t.subs → R ∈ t.subs → ∀ x, x ∈ S.nm → x ∈ R.nm → S ∈ R.subs ∨ R ∈ S.subs
  | lf i, _, h1, h2, _, _, _ => by
    simp [Tr.subs] at h1 h2; subst h1; subst h2; exact .inl (self_sub _)
  | fk a b, hok, h1, h2, x, hs, hr => by
    rcases sub_fk.mp h1 with e | h1 | h1
    · subst e; exact .inr h2
    · rcases sub_fk.mp h2 with e | h2 | h2
      · subst e; exact .inl (sub_fk.mpr (.inr (.inl h1)))
      · exact sub_nest hok.1 h1 h2 x hs hr
      · exact (ok_disj hok x (sub_nm h1 x hs) (sub_nm h2 x hr)).elim
    · rcases sub_fk.mp h2 with e | h2 | h2
      · subst e; exact .inl (sub_fk.mpr (.inr (.inr h1)))
      · exact (ok_disj hok x (sub_nm h2 x hr) (sub_nm h1 x hs)).elim
      · exact sub_nest hok.2.1 h1 h2 x hs hr
/-- a subtree with all of a fork's names is the fork -/
theorem sub_whole {S : Tr} : ∀ {t : Tr}, t.ok → S ∈ t.subs → (∀ x ∈ t.nm, x ∈ S.nm) → S = t
  | lf i, _, h, _ => by simpa [Tr.subs] using h
  | fk a b, hok, h, hx => by
    rcases sub_fk.mp h with e | h | h
    · exact e
    · exact (ok_disj hok b.fst (sub_nm h _ (hx _ (List.mem_append_right _ (fst_mem b)))) (fst_mem b)).elim
    · exact (ok_disj hok a.fst (fst_mem a) (sub_nm h _ (hx _ (List.mem_append_left _ (fst_mem a))))).elim
theorem sub_inj {S R t : Tr} (hok : t.ok) (hS : S ∈ t.subs) (hR : R ∈ t.subs) (h : ∀ x, x ∈ S.nm ↔ x ∈ R.nm) : S = R := by
  rcases sub_nest hok hS hR S.fst (fst_mem S) ((h _).mp (fst_mem S)) with z | z
  · exact sub_whole (sub_ok hok hR) z fun x hx => (h x).mpr hx
  · exact (sub_whole (sub_ok hok hS) z fun x hx => (h x).mp hx).symm
/-- a subtree, restricted, is one of the restricted tree -/
theorem sub_res {p : Nat → Bool} {S S' : Tr} : ∀ {t : Tr}, t.ok → S ∈ t.subs → res p S = some S' → ∃ t', res p t = some t' ∧ S' ∈ t'.subs
  | lf i, _, h, e => by
    simp [Tr.subs] at h; subst h; exact ⟨S', e, self_sub _⟩
  | fk a b, hok, h, e => by
    rcases sub_fk.mp h with z | h | h
    · subst z; exact ⟨S', e, self_sub _⟩
    · obtain ⟨x, ex, hx⟩ := sub_res hok.1 h e
      show ∃ t', comb (res p a) (res p b) = some t' ∧ _
      rw [ex]
      cases res p b with
      | none => exact ⟨x, rfl, hx⟩
      | some y => exact ⟨_, rfl, sub_mk.mpr (.inr (.inl hx))⟩
    · obtain ⟨x, ex, hx⟩ := sub_res hok.2.1 h e
      show ∃ t', comb (res p a) (res p b) = some t' ∧ _
      rw [ex]
      cases res p a with
      | none => exact ⟨x, rfl, hx⟩
      | some y => exact ⟨_, rfl, sub_mk.mpr (.inr (.inr hx))⟩
/-- and each subtree of the restricted tree comes of one -/
theorem sub_of_res {p : Nat → Bool} {S' : Tr} : ∀ {t t' : Tr}, res p t = some t' → S' ∈ t'.subs → ∃ S ∈ t.subs, res p S = some S'
  | lf i, t', h, hs => by
    have h0 := h
    unfold res at h
    split at h
    · cases h; simp [Tr.subs] at hs; subst hs; exact ⟨_, self_sub _, h0⟩
    · cases h
  | fk a b, t', h, hs => by
    have h : comb (res p a) (res p b) = some t' := h
    have h0 : res p (fk a b) = some t' := h
    cases ea : res p a with
    | none =>
      rw [ea] at h
      obtain ⟨S, h1, h2⟩ := sub_of_res h hs
      exact ⟨S, sub_fk.mpr (.inr (.inr h1)), h2⟩
    | some x =>
      cases eb : res p b with
      | none =>
        rw [ea, eb] at h; cases h
        obtain ⟨S, h1, h2⟩ := sub_of_res ea hs
        exact ⟨S, sub_fk.mpr (.inr (.inl h1)), h2⟩
      | some y =>
        rw [ea, eb] at h; cases h
        rcases sub_mk.mp hs with e | hs | hs
        · subst e; exact ⟨_, self_sub _, h0⟩
        · obtain ⟨S, h1, h2⟩ := sub_of_res ea hs
          exact ⟨S, sub_fk.mpr (.inr (.inl h1)), h2⟩
        · obtain ⟨S, h1, h2⟩ := sub_of_res eb hs
          exact ⟨S, sub_fk.mpr (.inr (.inr h1)), h2⟩
end Jt
end

section
set_option Elab.async false
set_option linter.all false
namespace Jt
open Tr
/-! ### putting beside -/
inductive Put (P S : Tr) : Tr → Tr → Prop
  | here : Put P S P (mk P S)
  | left {a a' b : Tr} : Put P S a a' → Put P S (fk a b) (mk a' b)
  | right {a b b' : Tr} : Put P S b b' → Put P S (fk a b) (mk a b')
section
variable {P S t t' : Tr} {p : Nat → Bool}
theorem Put.sub (h : Put P S t t') : P ∈ t.subs := by
  induction h with
  | here => exact self_sub _
  | left _ ih => exact sub_fk.mpr (.inr (.inl ih))
  | right _ ih => exact sub_fk.mpr (.inr (.inr ih))
theorem Put.mem (h : Put P S t t') (x : Nat) : x ∈ t'.nm ↔ x ∈ t.nm ∨ x ∈ S.nm := by
  induction h with
  | here => exact nm_mk _ _ _
  | @left a a' b _ ih =>
    rw [nm_mk, ih]; simp only [Tr.nm, List.mem_append]
    constructor
    · rintro ((h | h) | h)
      · exact .inl (.inl h)
      · exact .inr h
      · exact .inl (.inr h)
    · rintro ((h | h) | h)
      · exact .inl (.inl h)
      · exact .inr h
      · exact .inl (.inr h)
  | @right a b b' _ ih =>
    rw [nm_mk, ih]; simp only [Tr.nm, List.mem_append]
    constructor
    · rintro (h | h | h)
      · exact .inl (.inl h)
      · exact .inl (.inr h)
      · exact .inr h
    · rintro ((h | h) | h)
      · exact .inl h
      · exact .inr (.inl h)
      · exact .inr (.inr h)
theorem Put.ok (h : Put P S t t') (ht : t.ok) (hS : S.ok) (hd : Disj t S) : t'.ok := by
  induction h with
  | here => exact ok_mk ht hS hd
  | @left a a' b g ih =>
    refine ok_mk (ih ht.1 fun x h1 h2 => hd x (List.mem_append_left _ h1) h2) ht.2.1 fun x h1 h2 => ?_
    rcases (g.mem x).mp h1 with h1 | h1
    · exact ok_disj ht x h1 h2
    · exact hd x (List.mem_append_right _ h2) h1
  | @right a b b' g ih =>
    refine ok_mk ht.1 (ih ht.2.1 fun x h1 h2 => hd x (List.mem_append_right _ h1) h2) fun x h1 h2 => ?_
    rcases (g.mem x).mp h2 with h2 | h2
    · exact ok_disj ht x h1 h2
    · exact hd x (List.mem_append_left _ h1) h2
theorem Put.there (h : Put P S t t') : S ∈ t'.subs := by
  induction h with
  | here => exact sub_mk.mpr (.inr (.inr (self_sub _)))
  | left _ ih => exact sub_mk.mpr (.inr (.inl ih))
  | right _ ih => exact sub_mk.mpr (.inr (.inr ih))
theorem Put.dl {a a' b : Tr} (g : Put P S a a') (ht : (fk a b).ok) (hd : Disj (fk a b) S) : Disj a' b := fun x h1 h2 => by
  rcases (g.mem x).mp h1 with h1 | h1
  · exact ok_disj ht x h1 h2
  · exact hd x (List.mem_append_right _ h2) h1
theorem Put.dr {a b b' : Tr} (g : Put P S b b') (ht : (fk a b).ok) (hd : Disj (fk a b) S) : Disj a b' := fun x h1 h2 => by
  rcases (g.mem x).mp h2 with h2 | h2
  · exact ok_disj ht x h1 h2
  · exact hd x (List.mem_append_left _ h1) h2
theorem Disj.l {a b S : Tr} (hd : Disj (fk a b) S) : Disj a S := fun x h1 h2 => hd x (List.mem_append_left _ h1) h2
theorem Disj.r {a b S : Tr} (hd : Disj (fk a b) S) : Disj b S := fun x h1 h2 => hd x (List.mem_append_right _ h1) h2
theorem comb_none_r (x : Option Tr) : comb x none = x := by cases x <;> rfl
/-- without the part it is the tree -/
theorem Put.res (h : Put P S t t') (ht : t.ok) (hd : Disj t S) (hp : mt p S = false) : Jt.res p t' = Jt.res p t := by
  induction h with
  | here => rw [res_mk hd, res_none.mpr hp, comb_none_r]
  | @left a a' b g ih => rw [res_mk (g.dl ht hd), ih ht.1 hd.l]; rfl
  | @right a b b' g ih => rw [res_mk (g.dr ht hd), ih ht.2.1 hd.r]; rfl
/-- the part alone -/
theorem Put.resS (h : Put P S t t') (ht : t.ok) (hd : Disj t S) (hp : mt p t = false) : Jt.res p t' = Jt.res p S := by
  induction h with
  | here => rw [res_mk hd, res_none.mpr hp]; rfl
  | @left a a' b g ih =>
    rw [mt_fk, Bool.or_eq_false_iff] at hp
    rw [res_mk (g.dl ht hd), ih ht.1 hd.l hp.1, res_none.mpr hp.2, comb_none_r]
  | @right a b b' g ih =>
    rw [mt_fk, Bool.or_eq_false_iff] at hp
    rw [res_mk (g.dr ht hd), ih ht.2.1 hd.r hp.2, res_none.mpr hp.1]; rfl
theorem put_mk_left {P S x x' y : Tr} (g : Put P S x x') (h : Disj x y) (h' : Disj x' y) : Put P S (mk x y) (mk x' y) := by
  rcases mk_or x y with e | e
  · rw [e]; exact .left g
  · rw [e, mk_comm h']; exact .right g
theorem put_mk_right {P S x y y' : Tr} (g : Put P S y y') (h : Disj x y) (h' : Disj x y') : Put P S (mk x y) (mk x y') := by
  rw [mk_comm h, mk_comm h']
  exact put_mk_left g h.symm h'.symm
/-- restricted to some names and the part -/
theorem Put.resM {P0 : Tr} (h : Put P S t t') (ht : t.ok) (hS : S.ok) (hd : Disj t S) (hp : ∀ x ∈ S.nm, p x = true) (hP : Jt.res p P = some P0) : ∃ x x', Jt.res p t = some x ∧ Jt.res p t' = some x' ∧ Put P0 S x x' := by
  induction h with
  | here =>
    refine ⟨P0, _, hP, ?_, .here⟩
    rw [res_mk hd, hP, res_all hS hp]; rfl
  | @left a a' b g ih =>
    obtain ⟨x, x', h1, h2, h3⟩ := ih ht.1 hd.l
    rw [res_mk (g.dl ht hd), h2]
    show ∃ z z', comb (Jt.res p a) (Jt.res p b) = some z ∧ _
    rw [h1]
    cases eb : Jt.res p b with
    | none => exact ⟨x, x', rfl, rfl, h3⟩
    | some y => exact ⟨_, _, rfl, rfl, put_mk_left h3 (res_disj (ok_disj ht) h1 eb) (res_disj (g.dl ht hd) h2 eb)⟩
  | @right a b b' g ih =>
    obtain ⟨x, x', h1, h2, h3⟩ := ih ht.2.1 hd.r
    rw [res_mk (g.dr ht hd), h2]
    show ∃ z z', comb (Jt.res p a) (Jt.res p b) = some z ∧ _
    rw [h1]
    cases ea : Jt.res p a with
    | none => exact ⟨x, x', rfl, rfl, h3⟩
    | some y => exact ⟨_, _, rfl, rfl, put_mk_right h3 (res_disj (ok_disj ht) ea h1) (res_disj (g.dr ht hd) ea h2)⟩
theorem sz_pos (t : Tr) : 1 ≤ t.sz := by cases t <;> simp [Tr.sz]
theorem Put.det {x y : Tr} (h : Put P S t x) : t.ok → Put P S t y → x = y := by
  induction h generalizing y with
  | here =>
    intro ht g
    cases g with
    | here => rfl
    | left g =>
      have h1 := sub_sz g.sub
      simp only [Tr.sz] at h1; omega
    | right g =>
      have h1 := sub_sz g.sub
      simp only [Tr.sz] at h1; omega
  | @left a a' b g ih =>
    intro ht k
    cases k with
    | here =>
      have h1 := sub_sz g.sub
      simp only [Tr.sz] at h1; omega
    | left k => rw [ih ht.1 k]
    | right k => exact (ok_disj ht _ (sub_nm g.sub _ (fst_mem P)) (sub_nm k.sub _ (fst_mem P))).elim
  | @right a b b' g ih =>
    intro ht k
    cases k with
    | here =>
      have h1 := sub_sz g.sub
      simp only [Tr.sz] at h1; omega
    | left k => exact (ok_disj ht _ (sub_nm k.sub _ (fst_mem P)) (sub_nm g.sub _ (fst_mem P))).elim
    | right k => rw [ih ht.2.1 k]
theorem put_ex (S : Tr) {P : Tr} : ∀ {t : Tr}, P ∈ t.subs → ∃ t', Put P S t t'
  | lf i, h => by simp [Tr.subs] at h; subst h; exact ⟨_, .here⟩
  | fk a b, h => by
    rcases sub_fk.mp h with e | h | h
    · subst e; exact ⟨_, .here⟩
    · obtain ⟨a', g⟩ := put_ex S h; exact ⟨_, .left g⟩
    · obtain ⟨b', g⟩ := put_ex S h; exact ⟨_, .right g⟩
end

/-! ### moves -/
/-- t' is t with the subtree S taken off and put beside P, a subtree of the rest R -/
structure Mv (S R P t t' : Tr) : Prop where
  sub : S ∈ t.subs
  rest : res (fun x => decide (x ∉ S.nm)) t = some R
  put : Put P S R t'
section
variable {S R P t t' : Tr}
theorem Mv.disj (m : Mv S R P t t') : Disj R S := fun x h1 h2 => by
  have := ((res_mem m.rest x).mp h1).2
  simp [h2] at this
theorem Mv.okR (m : Mv S R P t t') (ht : t.ok) : R.ok := res_ok ht m.rest
theorem Mv.okS (m : Mv S R P t t') (ht : t.ok) : S.ok := sub_ok ht m.sub
theorem Mv.ok (m : Mv S R P t t') (ht : t.ok) : t'.ok := m.put.ok (m.okR ht) (m.okS ht) m.disj
theorem Mv.nm (m : Mv S R P t t') (x : Nat) : x ∈ t'.nm ↔ x ∈ t.nm := by
  rw [m.put.mem, res_mem m.rest]
  constructor
  · rintro (h | h)
    · exact h.1
    · exact sub_nm m.sub x h
  · intro h
    by_cases hs : x ∈ S.nm
    · exact .inr hs
    · exact .inl ⟨h, by simp [hs]⟩
/-- outside the part nothing changes -/
theorem Mv.out {p : Nat → Bool} (m : Mv S R P t t') (ht : t.ok) (hp : mt p S = false) : res p t' = res p t := by
  rw [m.put.res (m.okR ht) m.disj hp]
  have e : res p t = (res (fun x => decide (x ∉ S.nm)) t).bind (res p) := by
    rw [res_res ht]
    refine res_congr fun x _ => ?_
    by_cases hs : x ∈ S.nm
    · simp [hs, mt_false.mp hp x hs]
    · simp [hs]
  rw [e, m.rest]; rfl
theorem res_in {p : Nat → Bool} {S : Tr} : ∀ {t : Tr}, t.ok → S ∈ t.subs → (∀ x ∈ t.nm, p x = true → x ∈ S.nm) → res p t = res p S
  | lf i, _, h, _ => by simp [Tr.subs] at h; subst h; rfl
  | fk a b, hok, h, hp => by
    have no : ∀ u v : Tr, Disj u v → S ∈ u.subs → (∀ x ∈ v.nm, p x = true → x ∈ S.nm) → res p v = none := fun u v d hs hv => by
      refine res_none.mpr (mt_false.mpr fun x hx => ?_)
      cases e : p x with
      | false => rfl
      | true => exact (d x (sub_nm hs x (hv x hx e)) hx).elim
    rcases sub_fk.mp h with e | h | h
    · subst e; rfl
    · show comb (res p a) (res p b) = _
      rw [no a b (ok_disj hok) h fun x hx => hp x (List.mem_append_right _ hx), comb_none_r, res_in hok.1 h fun x hx => hp x (List.mem_append_left _ hx)]
    · show comb (res p a) (res p b) = _
      rw [no b a (ok_disj hok).symm h fun x hx => hp x (List.mem_append_left _ hx), res_in hok.2.1 h fun x hx => hp x (List.mem_append_right _ hx)]; rfl
/-- within the part nothing changes -/
theorem Mv.inn {p : Nat → Bool} (m : Mv S R P t t') (ht : t.ok) (hp : ∀ x, p x = true → x ∈ S.nm) : res p t' = res p t := by
  rw [res_in ht m.sub fun x _ => hp x, res_in (m.ok ht) m.put.there fun x _ => hp x]
/-- a part of a tree, but not all: the rest, and the place from which the tree comes again -/
theorem back_ex {S : Tr} : ∀ {t : Tr}, t.ok → S ∈ t.subs → S ≠ t → ∃ R P, res (fun x => decide (x ∉ S.nm)) t = some R ∧ Put P S R t
  | lf i, _, h, hn => by simp [Tr.subs] at h; exact (hn h).elim
  | fk a b, hok, h, hn => by
    have all : ∀ u v : Tr, Disj u v → v.ok → S ∈ u.subs → res (fun x => decide (x ∉ S.nm)) v = some v := fun u v d hv hs =>
      res_all hv fun x hx => by
        have : x ∉ S.nm := fun h => d x (sub_nm hs x h) hx
        simp [this]
    have non : res (fun x => decide (x ∉ S.nm)) S = none := res_none.mpr (mt_false.mpr fun x hx => by simp [hx])
    have d := ok_disj hok
    rcases sub_fk.mp h with e | h | h
    · exact (hn e).elim
    · by_cases e : S = a
      · subst e
        refine ⟨b, b, ?_, ?_⟩
        · show comb (res _ S) (res _ b) = _
          rw [non, all S b d hok.2.1 h]; rfl
        · have := @Put.here b S
          rw [mk_comm d.symm, mk_eq hok] at this
          exact this
      · obtain ⟨R, P, h1, h2⟩ := back_ex hok.1 h e
        refine ⟨mk R b, P, ?_, ?_⟩
        · show comb (res _ a) (res _ b) = _
          rw [h1, all a b d hok.2.1 h]; rfl
        · have dR : Disj R b := fun x x1 x2 => d x ((res_mem h1 x).mp x1).1 x2
          have := put_mk_left h2 dR d
          rw [mk_eq hok] at this
          exact this
    · by_cases e : S = b
      · subst e
        refine ⟨a, a, ?_, ?_⟩
        · show comb (res _ a) (res _ S) = _
          rw [non, all S a d.symm hok.1 h]; rfl
        · have := @Put.here a S
          rw [mk_eq hok] at this
          exact this
      · obtain ⟨R, P, h1, h2⟩ := back_ex hok.2.1 h e
        refine ⟨mk a R, P, ?_, ?_⟩
        · show comb (res _ a) (res _ b) = _
          rw [h1, all b a d.symm hok.1 h]; rfl
        · have dR : Disj a R := fun x x1 x2 => d x x1 ((res_mem h1 x).mp x2).1
          have := put_mk_right h2 dR d
          rw [mk_eq hok] at this
          exact this
/-- moves are taken back by moves -/
theorem Mv.back (m : Mv S R P t t') (ht : t.ok) : ∃ P', Mv S R P' t' t := by
  have hne : S ≠ t := fun e => by
    have : res (fun x => decide (x ∉ S.nm)) t = none := res_none.mpr (mt_false.mpr fun x hx => by rw [e]; simp [hx])
    rw [m.rest] at this; cases this
  obtain ⟨R', P', h1, h2⟩ := back_ex ht m.sub hne
  have e : R' = R := Option.some.inj (h1.symm.trans m.rest)
  subst e
  refine ⟨P', m.put.there, ?_, h2⟩
  rw [m.out ht (mt_false.mpr fun x hx => by simp [hx])]
  exact m.rest
end
end Jt
end

section
set_option Elab.async false
set_option linter.all false
namespace Jt
open Tr
/-! ### ways -/
/-- is the first node of a tree in the way of a lot p; o: the lot goes on outside the tree -/
def inw (p : Nat → Bool) (o : Bool) : Tr → Bool
  | lf i => p i
  | fk a b => (mt p a || mt p b) && (o || (mt p a && mt p b))
/-- no node is in the ways of both -/
def ap (p : Nat → Bool) (o : Bool) (q : Nat → Bool) (r : Bool) : Tr → Bool
  | lf i => !(p i && q i)
  | fk a b => !(inw p o (fk a b) && inw q r (fk a b)) && (ap p (o || mt p b) q (r || mt q b) a && ap p (o || mt p a) q (r || mt q a) b)
section
variable {p q p' q' : Nat → Bool} {o r o' r' : Bool}
theorem ap_fk {a b : Tr} : ap p o q r (fk a b) = true ↔ (inw p o (fk a b) && inw q r (fk a b)) = false ∧ ap p (o || mt p b) q (r || mt q b) a = true ∧ ap p (o || mt p a) q (r || mt q a) b = true := by
  show (!(inw p o (fk a b) && inw q r (fk a b)) && _) = true ↔ _
  rw [Bool.and_eq_true, Bool.and_eq_true]
  cases (inw p o (fk a b) && inw q r (fk a b)) <;> simp
theorem inw_fk {a b : Tr} : inw p o (fk a b) = ((mt p a || mt p b) && (o || (mt p a && mt p b))) := rfl
theorem inw_swap {a b : Tr} : inw p o (fk b a) = inw p o (fk a b) := by
  rw [inw_fk, inw_fk, Bool.or_comm (mt p b), Bool.and_comm (mt p b)]
theorem inw_mk {a b : Tr} : inw p o (mk a b) = inw p o (fk a b) := by
  rcases mk_or a b with e | e <;> rw [e]
  exact inw_swap
theorem ap_swap {a b : Tr} : ap p o q r (fk b a) = ap p o q r (fk a b) := by
  show (!(inw p o (fk b a) && inw q r (fk b a)) && _) = (!(inw p o (fk a b) && inw q r (fk a b)) && _)
  rw [inw_swap (p := p) (a := a) (b := b), inw_swap (p := q) (a := a) (b := b), Bool.and_comm (ap p _ q _ b)]
theorem ap_mk {a b : Tr} : ap p o q r (mk a b) = ap p o q r (fk a b) := by
  rcases mk_or a b with e | e <;> rw [e]
  exact ap_swap
theorem inw_true {t : Tr} : inw p true t = mt p t := by
  cases t with
  | lf i => rw [mt_lf]; rfl
  | fk a b => rw [mt_fk, inw_fk, Bool.true_or, Bool.and_true]
theorem inw_mt {t : Tr} (h : inw p o t = true) : mt p t = true := by
  cases t with
  | lf i => rw [mt_lf]; exact h
  | fk a b => rw [mt_fk]; rw [inw_fk, Bool.and_eq_true] at h; exact h.1
theorem ap_comm : ∀ {t : Tr} {o r : Bool}, ap p o q r t = ap q r p o t
  | lf i, o, r => by show (!(p i && q i)) = (!(q i && p i)); rw [Bool.and_comm]
  | fk a b, o, r => by
    show (!(inw p o (fk a b) && inw q r (fk a b)) && _) = (!(inw q r (fk a b) && inw p o (fk a b)) && _)
    rw [Bool.and_comm (inw p o _), ap_comm (t := a), ap_comm (t := b)]
theorem ap_no : ∀ {t : Tr} {o r : Bool}, mt p t = false → ap p o q r t = true
  | lf i, o, r, h => by rw [mt_lf] at h; show (!(p i && q i)) = true; rw [h]; rfl
  | fk a b, o, r, h => by
    rw [mt_fk, Bool.or_eq_false_iff] at h
    refine ap_fk.mpr ⟨?_, ap_no h.1, ap_no h.2⟩
    rw [inw_fk, h.1, h.2]; rfl
theorem ap_no' {t : Tr} (h : mt q t = false) : ap p o q r t = true := by
  rw [ap_comm]; exact ap_no h
/-- a lot alone is apart from nothing that it meets at an open node -/
theorem ap_not {t : Tr} (h : ap p o q r t = true) (h1 : inw p o t = true) (h2 : inw q r t = true) : False := by
  cases t with
  | lf i =>
    have h : (!(p i && q i)) = true := h
    have h1 : p i = true := h1
    have h2 : q i = true := h2
    rw [h1, h2] at h; cases h
  | fk a b =>
    have := (ap_fk.mp h).1
    rw [h1, h2] at this; cases this
/-- only the names in the tree count -/
theorem ap_congr : ∀ {t : Tr} {o r : Bool}, (∀ x ∈ t.nm, p x = p' x) → (∀ x ∈ t.nm, q x = q' x) → ap p o q r t = ap p' o q' r t
  | lf i, o, r, h1, h2 => by
    show (!(p i && q i)) = (!(p' i && q' i))
    rw [h1 i (by simp [Tr.nm]), h2 i (by simp [Tr.nm])]
  | fk a b, o, r, h1, h2 => by
    have ha : ∀ x ∈ a.nm, p x = p' x := fun x hx => h1 x (List.mem_append_left _ hx)
    have hb : ∀ x ∈ b.nm, p x = p' x := fun x hx => h1 x (List.mem_append_right _ hx)
    have ka : ∀ x ∈ a.nm, q x = q' x := fun x hx => h2 x (List.mem_append_left _ hx)
    have kb : ∀ x ∈ b.nm, q x = q' x := fun x hx => h2 x (List.mem_append_right _ hx)
    show (!(inw p o (fk a b) && inw q r (fk a b)) && _) = (!(inw p' o (fk a b) && inw q' r (fk a b)) && _)
    rw [inw_fk, inw_fk, inw_fk, inw_fk, mt_congr ha, mt_congr hb, mt_congr ka, mt_congr kb, ap_congr ha ka, ap_congr hb kb]
theorem mt_mono {t : Tr} (h : ∀ x, p' x = true → p x = true) (h1 : mt p' t = true) : mt p t = true := by
  obtain ⟨x, hx, e⟩ := mt_true.mp h1
  exact mt_true.mpr ⟨x, hx, h x e⟩
theorem inw_mono {t : Tr} (h : ∀ x, p' x = true → p x = true) (ho : o' = true → o = true) (h1 : inw p' o' t = true) : inw p o t = true := by
  cases t with
  | lf i => exact h i h1
  | fk a b =>
    have ha : mt p' a = true → mt p a = true := mt_mono h
    have hb : mt p' b = true → mt p b = true := mt_mono h
    rw [inw_fk] at h1 ⊢
    revert ha hb ho h1
    cases mt p' a <;> cases mt p' b <;> cases o' <;> cases mt p a <;> cases mt p b <;> cases o <;> simp
theorem ap_mono1 : ∀ {t : Tr} {o o' r : Bool}, (∀ x, p' x = true → p x = true) → (o' = true → o = true) → ap p o q r t = true → ap p' o' q r t = true
  | lf i, o, o', r, h, _, h1 => by
    have h1 : (!(p i && q i)) = true := h1
    show (!(p' i && q i)) = true
    have := h i
    revert h1 this
    cases p' i <;> cases p i <;> cases q i <;> simp
  | fk a b, o, o', r, h, ho, h1 => by
    obtain ⟨k1, k2, k3⟩ := ap_fk.mp h1
    have fl : ∀ u : Tr, (o' || mt p' u) = true → (o || mt p u) = true := fun u e => by
      rw [Bool.or_eq_true] at e ⊢
      rcases e with e | e
      · exact .inl (ho e)
      · exact .inr (mt_mono h e)
    refine ap_fk.mpr ⟨?_, ap_mono1 h (fl b) k2, ap_mono1 h (fl a) k3⟩
    cases e : (inw p' o' (fk a b) && inw q r (fk a b)) with
    | false => rfl
    | true =>
      rw [Bool.and_eq_true] at e
      rw [inw_mono h ho e.1, e.2] at k1; cases k1
theorem ap_mono {t : Tr} (h1 : ∀ x, p' x = true → p x = true) (h2 : o' = true → o = true) (h3 : ∀ x, q' x = true → q x = true) (h4 : r' = true → r = true) (h : ap p o q r t = true) : ap p' o' q' r' t = true := by
  have k := ap_mono1 h1 h2 h
  rw [ap_comm] at k ⊢
  exact ap_mono1 h3 h4 k
theorem mt_res {s : Nat → Bool} {t t' : Tr} (h : res s t = some t') (hp : ∀ x, p x = true → s x = true) : mt p t' = mt p t := by
  rw [Bool.eq_iff_iff, mt_true, mt_true]
  constructor
  · rintro ⟨x, hx, e⟩; exact ⟨x, ((res_mem h x).mp hx).1, e⟩
  · rintro ⟨x, hx, e⟩; exact ⟨x, (res_mem h x).mpr ⟨hx, hp x e⟩, e⟩
theorem mt_res_none {s : Nat → Bool} {t : Tr} (h : res s t = none) (hp : ∀ x, p x = true → s x = true) : mt p t = false := by
  have k := mt_false.mp (res_none.mp h)
  refine mt_false.mpr fun x hx => ?_
  cases e : p x with
  | false => rfl
  | true => have := k x hx; rw [hp x e] at this; cases this
/-- apartness is seen in the tree to some names that have both lots -/
theorem ap_res {s : Nat → Bool} (hp : ∀ x, p x = true → s x = true) (hq : ∀ x, q x = true → s x = true) : ∀ {t t' : Tr} {o r : Bool}, res s t = some t' → ap p o q r t' = ap p o q r t
  | lf i, t', o, r, h => by
    unfold res at h
    split at h
    · cases h; rfl
    · cases h
  | fk a b, t', o, r, h => by
    have h : comb (res s a) (res s b) = some t' := h
    have one : ∀ {u v x : Tr}, res s u = none → res s v = some x → (∀ {o r : Bool}, ap p o q r x = ap p o q r v) → ap p o q r x = ap p o q r (fk u v) := fun {u v x} hu hv ih => by
      have m1 := mt_res_none hu hp
      have m2 := mt_res_none hu hq
      rw [ih]
      show _ = (!(inw p o (fk u v) && inw q r (fk u v)) && (ap p (o || mt p v) q (r || mt q v) u && ap p (o || mt p u) q (r || mt q u) v))
      rw [ap_no m1, inw_fk, inw_fk, m1, m2]
      simp only [Bool.false_or, Bool.false_and, Bool.or_false, Bool.true_and]
      cases e : ap p o q r v with
      | false => simp
      | true =>
        have : ((mt p v && o) && (mt q v && r)) = false := by
          cases z : ((mt p v && o) && (mt q v && r)) with
          | false => rfl
          | true =>
            rw [Bool.and_eq_true, Bool.and_eq_true, Bool.and_eq_true] at z
            obtain ⟨⟨z1, z2⟩, z3, z4⟩ := z
            subst z2; subst z4
            exact (ap_not e (by rw [inw_true]; exact z1) (by rw [inw_true]; exact z3)).elim
        rw [this]; rfl
    cases ea : res s a with
    | none =>
      rw [ea] at h
      exact one ea h (fun {o r} => ap_res hp hq h)
    | some x =>
      cases eb : res s b with
      | none =>
        rw [ea, eb] at h; cases h
        rw [one eb ea (fun {o r} => ap_res hp hq ea), ap_swap]
      | some y =>
        rw [ea, eb] at h; cases h
        rw [ap_mk]
        show (!(inw p o (fk x y) && inw q r (fk x y)) && _) = (!(inw p o (fk a b) && inw q r (fk a b)) && _)
        rw [ap_res hp hq ea, ap_res hp hq eb, inw_fk, inw_fk, inw_fk, inw_fk, mt_res ea hp, mt_res ea hq, mt_res eb hp, mt_res eb hq]
/-- a lot within a subtree is apart from one without it -/
theorem ap_in {S : Tr} : ∀ {t : Tr} {r : Bool}, t.ok → S ∈ t.subs → (∀ x ∈ t.nm, p x = true → x ∈ S.nm) → (∀ x ∈ S.nm, q x = false) → ap p false q r t = true
  | lf i, r, _, h, _, h2 => by
    simp [Tr.subs] at h; subst h
    exact ap_no' (mt_false.mpr h2)
  | fk a b, r, hok, h, h1, h2 => by
    have key : ∀ {u v : Tr} {r : Bool}, Disj u v → u.ok → S ∈ u.subs → (∀ x ∈ u.nm, p x = true → x ∈ S.nm) → (∀ x ∈ v.nm, p x = true → x ∈ S.nm) →
        (∀ {r : Bool}, ap p false q r u = true) → ap p false q r (fk u v) = true := fun {u v r} d ok hs hu hv ih => by
      have m : mt p v = false := mt_false.mpr fun x hx => by
        cases e : p x with
        | false => rfl
        | true => exact (d x (sub_nm hs x (hv x hx e)) hx).elim
      refine ap_fk.mpr ⟨?_, ?_, ap_no m⟩
      · rw [inw_fk, m]; simp
      · rw [m]; exact ih
    rcases sub_fk.mp h with e | h | h
    · subst e
      exact ap_no' (mt_false.mpr h2)
    · exact key (ok_disj hok) hok.1 h (fun x hx => h1 x (List.mem_append_left _ hx)) (fun x hx => h1 x (List.mem_append_right _ hx))
        (fun {r} => ap_in hok.1 h (fun x hx => h1 x (List.mem_append_left _ hx)) h2)
    · rw [ap_swap]
      exact key (ok_disj hok).symm hok.2.1 h (fun x hx => h1 x (List.mem_append_right _ hx)) (fun x hx => h1 x (List.mem_append_left _ hx))
        (fun {r} => ap_in hok.2.1 h (fun x hx => h1 x (List.mem_append_right _ hx)) h2)
/-- at a lot's head it does not count whether the lot goes on outside -/
theorem ap_head {t : Tr} (h : inw p false t = true) : ap p o q r t = ap p o' q r t := by
  cases t with
  | lf i => rfl
  | fk a b =>
    rw [inw_fk, Bool.false_or, Bool.and_eq_true, Bool.and_eq_true] at h
    show (!(inw p o (fk a b) && inw q r (fk a b)) && _) = (!(inw p o' (fk a b) && inw q r (fk a b)) && _)
    rw [inw_fk (p := p), inw_fk (p := p), h.2.1, h.2.2]
    simp
/-- THE JOINING: a part S is put beside a node P of a lot's way; what is apart from the lot is apart from it with the part -/
theorem Put.ap {P S t t' : Tr} (h : Put P S t t') (hm : ∀ x ∈ S.nm, p x = true) (hx : ∀ x ∈ S.nm, q x = false) (hP : inw p false P = true) : ∀ {o r : Bool}, Jt.ap p o q r t = true → Jt.ap p o q r t' = true := by
  have mS : mt p S = true := mt_true.mpr ⟨_, fst_mem S, hm _ (fst_mem S)⟩
  have qS : mt q S = false := mt_false.mpr hx
  have meq : ∀ {u u' : Tr}, Put P S u u' → mt p u' = mt p u ∧ mt q u' = mt q u := fun {u u'} g => by
    have mP := inw_mt hP
    obtain ⟨x, x1, x2⟩ := mt_true.mp mP
    have h1 : mt p u = true := mt_true.mpr ⟨x, sub_nm g.sub x x1, x2⟩
    have h2 : mt p u' = true := mt_true.mpr ⟨x, (g.mem x).mpr (.inl (sub_nm g.sub x x1)), x2⟩
    refine ⟨h2.trans h1.symm, ?_⟩
    rw [Bool.eq_iff_iff, mt_true, mt_true]
    constructor
    · rintro ⟨y, y1, y2⟩
      rcases (g.mem y).mp y1 with y1 | y1
      · exact ⟨y, y1, y2⟩
      · rw [hx y y1] at y2; cases y2
    · rintro ⟨y, y1, y2⟩
      exact ⟨y, (g.mem y).mpr (.inl y1), y2⟩
  induction h with
  | here =>
    intro o r h
    rw [ap_mk]
    refine ap_fk.mpr ⟨?_, ?_, ap_no' qS⟩
    · rw [inw_fk (p := q), qS]
      cases e : mt q P with
      | false => simp
      | true =>
        cases r with
        | false => simp
        | true =>
          exact (ap_not h (inw_mono (fun _ z => z) (fun z => by cases z) hP) (by rw [inw_true]; exact e)).elim
    · rw [qS, Bool.or_false, ap_head hP (o' := o)]
      exact h
  | @left a a' b g ih =>
    intro o r h
    obtain ⟨k1, k2, k3⟩ := ap_fk.mp h
    obtain ⟨e1, e2⟩ := meq g
    rw [ap_mk]
    refine ap_fk.mpr ⟨?_, ih k2, ?_⟩
    · rw [inw_fk, inw_fk, e1, e2, ← inw_fk, ← inw_fk]; exact k1
    · rw [e1, e2]; exact k3
  | @right a b b' g ih =>
    intro o r h
    obtain ⟨k1, k2, k3⟩ := ap_fk.mp h
    obtain ⟨e1, e2⟩ := meq g
    rw [ap_mk]
    refine ap_fk.mpr ⟨?_, ?_, ih k3⟩
    · rw [inw_fk, inw_fk, e1, e2, ← inw_fk, ← inw_fk]; exact k1
    · rw [e1, e2]; exact k2
end

/-! ### the nodes of a way; those above a head -/
def wayT (p : Nat → Bool) : Bool → Tr → List Tr
  | o, lf i => if inw p o (lf i) = true then [lf i] else []
  | o, fk a b => (if inw p o (fk a b) = true then [fk a b] else []) ++ (wayT p (o || mt p b) a ++ wayT p (o || mt p a) b)
/-- the nodes above the head of a lot, the least first -/
def anc (p : Nat → Bool) : Tr → List Tr
  | lf _ => []
  | fk a b => if (mt p a && mt p b) = true then [] else if mt p a = true then anc p a ++ [fk a b] else anc p b ++ [fk a b]
/-- the head of a lot's way -/
def hd (p : Nat → Bool) : Tr → Tr
  | lf i => lf i
  | fk a b => if (mt p a && mt p b) = true then fk a b else if mt p a = true then hd p a else hd p b
section
variable {p q : Nat → Bool}
theorem wayT_fk {o : Bool} {a b : Tr} : wayT p o (fk a b) = (if inw p o (fk a b) = true then [fk a b] else []) ++ (wayT p (o || mt p b) a ++ wayT p (o || mt p a) b) := rfl
theorem anc_fk {a b : Tr} : anc p (fk a b) = if (mt p a && mt p b) = true then [] else if mt p a = true then anc p a ++ [fk a b] else anc p b ++ [fk a b] := rfl
theorem hd_fk {a b : Tr} : hd p (fk a b) = if (mt p a && mt p b) = true then fk a b else if mt p a = true then hd p a else hd p b := rfl
theorem wayT_sub : ∀ {t : Tr} {o : Bool} {N : Tr}, N ∈ wayT p o t → N ∈ t.subs
  | lf i, o, N, h => by
    unfold wayT at h
    split at h
    · simpa [Tr.subs] using h
    · cases h
  | fk a b, o, N, h => by
    unfold wayT at h
    rcases List.mem_append.mp h with h | h
    · split at h
      · simp at h; exact sub_fk.mpr (.inl h)
      · cases h
    · rcases List.mem_append.mp h with h | h
      · exact sub_fk.mpr (.inr (.inl (wayT_sub h)))
      · exact sub_fk.mpr (.inr (.inr (wayT_sub h)))
theorem wayT_self {t : Tr} {o : Bool} : t ∈ wayT p o t ↔ inw p o t = true := by
  cases t with
  | lf i => unfold wayT; split <;> simp_all
  | fk a b =>
    unfold wayT
    constructor
    · intro h
      rcases List.mem_append.mp h with h | h
      · split at h
        · assumption
        · cases h
      · rcases List.mem_append.mp h with h | h
        · have := sub_sz (wayT_sub h); simp only [Tr.sz] at this; omega
        · have := sub_sz (wayT_sub h); simp only [Tr.sz] at this; omega
    · intro h
      rw [if_pos h]; simp
theorem not_sub_l {a b : Tr} (h : fk a b ∈ a.subs) : False := by
  have := sub_sz h; simp only [Tr.sz] at this; omega
theorem not_sub_r {a b : Tr} (h : fk a b ∈ b.subs) : False := by
  have := sub_sz h; simp only [Tr.sz] at this; omega
theorem sub_lr {a b N : Tr} (hok : (fk a b).ok) (h1 : N ∈ a.subs) (h2 : N ∈ b.subs) : False := ok_disj hok _ (sub_nm h1 _ (fst_mem N)) (sub_nm h2 _ (fst_mem N))
theorem wayT_l {a b N : Tr} {o : Bool} (hok : (fk a b).ok) (h : N ∈ a.subs) : N ∈ wayT p o (fk a b) ↔ N ∈ wayT p (o || mt p b) a := by
  rw [wayT_fk, List.mem_append, List.mem_append]
  constructor
  · rintro (k | k | k)
    · split at k
      · simp at k; subst k; exact (not_sub_l h).elim
      · cases k
    · exact k
    · exact (sub_lr hok h (wayT_sub k)).elim
  · exact fun k => .inr (.inl k)
theorem wayT_r {a b N : Tr} {o : Bool} (hok : (fk a b).ok) (h : N ∈ b.subs) : N ∈ wayT p o (fk a b) ↔ N ∈ wayT p (o || mt p a) b := by
  rw [wayT_fk, List.mem_append, List.mem_append]
  constructor
  · rintro (k | k | k)
    · split at k
      · simp at k; subst k; exact (not_sub_r h).elim
      · cases k
    · exact (sub_lr hok (wayT_sub k) h).elim
    · exact k
  · exact fun k => .inr (.inr k)
/-- apart: no node in both ways -/
theorem ap_iff : ∀ {t : Tr} {o r : Bool}, t.ok → (ap p o q r t = true ↔ ∀ N, N ∈ wayT p o t → N ∈ wayT q r t → False)
  | lf i, o, r, _ => by
    show (!(p i && q i)) = true ↔ _
    constructor
    · intro h N h1 h2
      unfold wayT at h1 h2
      have e1 : inw p o (lf i) = p i := rfl
      have e2 : inw q r (lf i) = q i := rfl
      rw [e1] at h1; rw [e2] at h2
      revert h h1 h2
      cases p i <;> cases q i <;> simp
    · intro h
      have h := h (lf i)
      unfold wayT at h
      have e1 : inw p o (lf i) = p i := rfl
      have e2 : inw q r (lf i) = q i := rfl
      rw [e1, e2] at h
      revert h
      cases p i <;> cases q i <;> simp
  | fk a b, o, r, hok => by
    rw [ap_fk, ap_iff hok.1, ap_iff hok.2.1]
    constructor
    · rintro ⟨h1, h2, h3⟩ N n1 n2
      rcases sub_fk.mp (wayT_sub n1) with e | e | e
      · subst e
        rw [wayT_self.mp n1, wayT_self.mp n2] at h1; cases h1
      · exact h2 N ((wayT_l hok e).mp n1) ((wayT_l hok e).mp n2)
      · exact h3 N ((wayT_r hok e).mp n1) ((wayT_r hok e).mp n2)
    · intro h
      refine ⟨?_, fun N n1 n2 => ?_, fun N n1 n2 => ?_⟩
      · cases e : (inw p o (fk a b) && inw q r (fk a b)) with
        | false => rfl
        | true =>
          rw [Bool.and_eq_true] at e
          exact (h _ (wayT_self.mpr e.1) (wayT_self.mpr e.2)).elim
      · exact h N ((wayT_l hok (wayT_sub n1)).mpr n1) ((wayT_l hok (wayT_sub n2)).mpr n2)
      · exact h N ((wayT_r hok (wayT_sub n1)).mpr n1) ((wayT_r hok (wayT_sub n2)).mpr n2)
theorem anc_sub : ∀ {t N : Tr}, N ∈ anc p t → N ∈ t.subs
  | lf i, N, h => by cases h
  | fk a b, N, h => by
    unfold anc at h
    split at h
    · cases h
    · split at h
      · rcases List.mem_append.mp h with h | h
        · exact sub_fk.mpr (.inr (.inl (anc_sub h)))
        · simp at h; exact sub_fk.mpr (.inl h)
      · rcases List.mem_append.mp h with h | h
        · exact sub_fk.mpr (.inr (.inr (anc_sub h)))
        · simp at h; exact sub_fk.mpr (.inl h)
theorem anc_l {a b : Tr} (h1 : mt p a = true) (h2 : mt p b = false) : anc p (fk a b) = anc p a ++ [fk a b] := by
  rw [anc_fk, h1, h2]; rfl
theorem anc_r {a b : Tr} (h1 : mt p a = false) (h2 : mt p b = true) : anc p (fk a b) = anc p b ++ [fk a b] := by
  rw [anc_fk, h1, h2]; rfl
theorem anc_both {a b : Tr} (h1 : mt p a = true) (h2 : mt p b = true) : anc p (fk a b) = [] := by
  rw [anc_fk, h1, h2]; rfl
/-- where no node above its head is in the other's way, a lot may as well go up to the first node -/
theorem ap_up : ∀ {t : Tr} {r : Bool}, t.ok → (∀ N ∈ anc p t, N ∈ wayT q r t → False) → ap p false q r t = true → ap p true q r t = true
  | lf i, r, _, _, h => h
  | fk a b, r, hok, hf, h => by
    obtain ⟨k1, k2, k3⟩ := ap_fk.mp h
    cases ha : mt p a with
    | true =>
      cases hb : mt p b with
      | true =>
        refine ap_fk.mpr ⟨?_, ?_, ?_⟩
        · rw [inw_fk, ha, hb] at k1 ⊢; simpa using k1
        · rw [hb] at k2 ⊢; simpa using k2
        · rw [ha] at k3 ⊢; simpa using k3
      | false =>
        rw [anc_l ha hb] at hf
        have no : inw q r (fk a b) = false := by
          cases e : inw q r (fk a b) with
          | false => rfl
          | true => exact (hf _ (by simp) (wayT_self.mpr e)).elim
        refine ap_fk.mpr ⟨by rw [no, Bool.and_false], ?_, ap_no hb⟩
        rw [Bool.true_or]
        rw [hb, Bool.or_false] at k2
        exact ap_up hok.1 (fun N n1 n2 => hf N (by simp [n1]) ((wayT_l hok (anc_sub n1)).mpr n2)) k2
    | false =>
      cases hb : mt p b with
      | true =>
        rw [anc_r ha hb] at hf
        have no : inw q r (fk a b) = false := by
          cases e : inw q r (fk a b) with
          | false => rfl
          | true => exact (hf _ (by simp) (wayT_self.mpr e)).elim
        refine ap_fk.mpr ⟨by rw [no, Bool.and_false], ap_no ha, ?_⟩
        rw [Bool.true_or]
        rw [ha, Bool.or_false] at k3
        exact ap_up hok.2.1 (fun N n1 n2 => hf N (by simp [n1]) ((wayT_r hok (anc_sub n1)).mpr n2)) k3
      | false => exact ap_no (by rw [mt_fk, ha, hb]; rfl)
theorem hd_sub : ∀ {t : Tr}, hd p t ∈ t.subs
  | lf i => self_sub _
  | fk a b => by
    unfold hd
    split
    · exact self_sub _
    · split
      · exact sub_fk.mpr (.inr (.inl hd_sub))
      · exact sub_fk.mpr (.inr (.inr hd_sub))
theorem hd_l {a b : Tr} (h1 : mt p a = true) (h2 : mt p b = false) : hd p (fk a b) = hd p a := by
  rw [hd_fk, h1, h2]; rfl
theorem hd_r {a b : Tr} (h1 : mt p a = false) : hd p (fk a b) = hd p b := by
  rw [hd_fk, h1]; rfl
theorem hd_both {a b : Tr} (h1 : mt p a = true) (h2 : mt p b = true) : hd p (fk a b) = fk a b := by
  rw [hd_fk, h1, h2]; rfl
theorem hd_inw : ∀ {t : Tr}, mt p t = true → inw p false (hd p t) = true
  | lf i, h => by rw [mt_lf] at h; exact h
  | fk a b, h => by
    cases ha : mt p a with
    | true =>
      cases hb : mt p b with
      | true => rw [hd_both ha hb, inw_fk, ha, hb]; rfl
      | false => rw [hd_l ha hb]; exact hd_inw ha
    | false =>
      rw [mt_fk, ha, Bool.false_or] at h
      rw [hd_r ha]; exact hd_inw h
theorem hd_has : ∀ {t : Tr}, ∀ x ∈ t.nm, p x = true → x ∈ (hd p t).nm
  | lf i, x, hx, _ => hx
  | fk a b, x, hx, e => by
    have na : x ∈ a.nm → mt p a = true := fun h => mt_true.mpr ⟨x, h, e⟩
    have nb : x ∈ b.nm → mt p b = true := fun h => mt_true.mpr ⟨x, h, e⟩
    cases ha : mt p a with
    | true =>
      cases hb : mt p b with
      | true => rw [hd_both ha hb]; exact hx
      | false =>
        rw [hd_l ha hb]
        rcases List.mem_append.mp hx with h | h
        · exact hd_has x h e
        · rw [nb h] at hb; cases hb
    | false =>
      rw [hd_r ha]
      rcases List.mem_append.mp hx with h | h
      · rw [na h] at ha; cases ha
      · exact hd_has x h e
/-- the head is the least node that has the lot -/
theorem hd_least {Z : Tr} : ∀ {t : Tr}, t.ok → mt p t = true → Z ∈ t.subs → (∀ x ∈ t.nm, p x = true → x ∈ Z.nm) → hd p t ∈ Z.subs
  | lf i, _, _, h, _ => by simp [Tr.subs] at h; subst h; exact self_sub _
  | fk a b, hok, hm, h, hx => by
    rcases sub_fk.mp h with e | h | h
    · subst e; exact hd_sub
    · have hb : mt p b = false := mt_false.mpr fun x h1 => by
        cases e : p x with
        | false => rfl
        | true => exact (ok_disj hok x (sub_nm h x (hx x (List.mem_append_right _ h1) e)) h1).elim
      have ha : mt p a = true := by rw [mt_fk, hb, Bool.or_false] at hm; exact hm
      rw [hd_l ha hb]
      exact hd_least hok.1 ha h fun x h1 => hx x (List.mem_append_left _ h1)
    · have ha : mt p a = false := mt_false.mpr fun x h1 => by
        cases e : p x with
        | false => rfl
        | true => exact (ok_disj hok x h1 (sub_nm h x (hx x (List.mem_append_left _ h1) e))).elim
      have hb : mt p b = true := by rw [mt_fk, ha, Bool.false_or] at hm; exact hm
      rw [hd_r ha]
      exact hd_least hok.2.1 hb h fun x h1 => hx x (List.mem_append_right _ h1)
end
end Jt
end

section
set_option Elab.async false
set_option linter.all false
namespace Jt
open Tr
theorem pw_mem {α : Type} {R : α → α → Prop} (hs : ∀ a b, R a b → R b a) : ∀ {l : List α}, l.Pairwise R → ∀ {a b}, a ∈ l → b ∈ l → a ≠ b → R a b
  | [], _, a, b, ha, _, _ => by cases ha
  | c :: l, h, a, b, ha, hb, hn => by
    rw [List.pairwise_cons] at h
    rcases List.mem_cons.mp ha with e | ha
    · rcases List.mem_cons.mp hb with e' | hb
      · exact (hn (e.trans e'.symm)).elim
      · rw [e]; exact h.1 b hb
    · rcases List.mem_cons.mp hb with e' | hb
      · rw [e']; exact hs _ _ (h.1 a ha)
      · exact pw_mem hs h.2 ha hb hn
/-- some lot has just the names of a subtree: no other one is beneath it -/
theorem free_ex : ∀ {t : Tr} (ls : List ((Nat → Bool) × Bool)), t.ok → (∀ x ∈ t.nm, ∃ c ∈ ls, c.1 x = true) → ls.Pairwise (fun c d => ap c.1 c.2 d.1 d.2 t = true) → (∃ c ∈ ls, c.2 = false ∧ mt c.1 t = true) →
    ∃ c ∈ ls, c.2 = false ∧ ∃ S ∈ t.subs, (∀ x ∈ S.nm, c.1 x = true) ∧ ∀ x ∈ t.nm, c.1 x = true → x ∈ S.nm
  | lf i, ls, _, _, _, ⟨c, hc, e, h⟩ => by
    rw [mt_lf] at h
    refine ⟨c, hc, e, _, self_sub _, fun x hx => ?_, fun x hx _ => hx⟩
    simp [Tr.nm] at hx; subst hx; exact h
  | fk a b, ls, hok, hcov, hpw, ⟨c, hc, e, h⟩ => by
    have side : ∀ {u v : Tr} (f : (Nat → Bool) → Bool), Disj u v → (∀ x, x ∈ (fk a b).nm ↔ x ∈ u.nm ∨ x ∈ v.nm) → (∀ S ∈ u.subs, S ∈ (fk a b).subs) → (∀ d, f d = mt d v) →
        (∃ d ∈ ls, d.2 = false ∧ mt d.1 u = true ∧ mt d.1 v = false) →
        ((∃ d : (Nat → Bool) × Bool, d ∈ ls.map (fun d => (d.1, d.2 || f d.1)) ∧ d.2 = false ∧ mt d.1 u = true) → ∃ d : (Nat → Bool) × Bool, d ∈ ls.map (fun d => (d.1, d.2 || f d.1)) ∧ d.2 = false ∧ ∃ S ∈ u.subs, (∀ x ∈ S.nm, d.1 x = true) ∧ ∀ x ∈ u.nm, d.1 x = true → x ∈ S.nm) →
        ∃ d ∈ ls, d.2 = false ∧ ∃ S ∈ (fk a b).subs, (∀ x ∈ S.nm, d.1 x = true) ∧ ∀ x ∈ (fk a b).nm, d.1 x = true → x ∈ S.nm := fun {u v} f _ hx hs hf ⟨d, d1, d2, d3, d4⟩ ih => by
      obtain ⟨d', k1, k2, S, s1, s2, s3⟩ := ih ⟨_, List.mem_map.mpr ⟨d, d1, rfl⟩, by show (d.2 || f d.1) = false; rw [d2, hf, d4]; rfl, d3⟩
      obtain ⟨g, g1, rfl⟩ := List.mem_map.mp k1
      have k2 : (g.2 || f g.1) = false := k2
      rw [Bool.or_eq_false_iff, hf] at k2
      refine ⟨g, g1, k2.1, S, hs S s1, s2, fun x h1 h2 => ?_⟩
      rcases (hx x).mp h1 with h1 | h1
      · exact s3 x h1 h2
      · rw [mt_false.mp k2.2 x h1] at h2; cases h2
    by_cases hA : ∃ d ∈ ls, d.2 = false ∧ mt d.1 a = true ∧ mt d.1 b = false
    · refine side (u := a) (v := b) (fun d => mt d b) (ok_disj hok) (fun x => by simp [Tr.nm]) (fun S hS => sub_fk.mpr (.inr (.inl hS))) (fun _ => rfl) hA fun hh => ?_
      refine free_ex (t := a) _ hok.1 (fun x hx => ?_) ?_ hh
      · obtain ⟨d, d1, d2⟩ := hcov x (List.mem_append_left _ hx)
        exact ⟨_, List.mem_map.mpr ⟨d, d1, rfl⟩, d2⟩
      · rw [List.pairwise_map]
        exact hpw.imp fun {c d} k => (ap_fk.mp k).2.1
    · by_cases hB : ∃ d ∈ ls, d.2 = false ∧ mt d.1 b = true ∧ mt d.1 a = false
      · refine side (u := b) (v := a) (fun d => mt d a) (ok_disj hok).symm (fun x => by simp [Tr.nm, or_comm]) (fun S hS => sub_fk.mpr (.inr (.inr hS))) (fun _ => rfl) hB fun hh => ?_
        refine free_ex (t := b) _ hok.2.1 (fun x hx => ?_) ?_ hh
        · obtain ⟨d, d1, d2⟩ := hcov x (List.mem_append_right _ hx)
          exact ⟨_, List.mem_map.mpr ⟨d, d1, rfl⟩, d2⟩
        · rw [List.pairwise_map]
          exact hpw.imp fun {c d} k => (ap_fk.mp k).2.2
      · have inb : ∀ d ∈ ls, mt d.1 (fk a b) = true → inw d.1 d.2 (fk a b) = true := fun d d1 d2 => by
          cases d3 : d.2 with
          | true => rw [inw_true]; exact d2
          | false =>
            rw [inw_fk]
            rw [mt_fk] at d2
            cases h1 : mt d.1 a with
            | true =>
              cases h2 : mt d.1 b with
              | true => rfl
              | false => exact (hA ⟨d, d1, d3, h1, h2⟩).elim
            | false =>
              cases h2 : mt d.1 b with
              | true => exact (hB ⟨d, d1, d3, h2, h1⟩).elim
              | false => rw [h1, h2] at d2; cases d2
        refine ⟨c, hc, e, _, self_sub _, fun x hx => ?_, fun x hx _ => hx⟩
        obtain ⟨d, d1, d2⟩ := hcov x hx
        by_cases z : d = c
        · rw [← z]; exact d2
        · have k := pw_mem (R := fun c d : (Nat → Bool) × Bool => ap c.1 c.2 d.1 d.2 (fk a b) = true) (fun c d k => by rw [ap_comm]; exact k) hpw d1 hc z
          exact (ap_not k (inb d d1 (mt_true.mpr ⟨x, hx, d2⟩)) (inb c hc h)).elim

/-! ### the first node above a lot's head that stands in a mate's way -/
inductive MetAt (p m : Nat → Bool) : Bool → Tr → Tr → List Tr → Prop
  | hl {om : Bool} {a b : Tr} : mt p a = true → mt p b = false → mt m a = false → inw m om (fk a b) = true → MetAt p m om (fk a b) b (anc p a)
  | hr {om : Bool} {a b : Tr} : mt p b = true → mt p a = false → mt m b = false → inw m om (fk a b) = true → MetAt p m om (fk a b) a (anc p b)
  | ul {om : Bool} {a b c : Tr} {pre : List Tr} : mt p b = false → MetAt p m (om || mt m b) a c pre → MetAt p m om (fk a b) c pre
  | ur {om : Bool} {a b c : Tr} {pre : List Tr} : mt p a = false → MetAt p m (om || mt m a) b c pre → MetAt p m om (fk a b) c pre
section
variable {p m q M : Nat → Bool} {om r : Bool} {t c : Tr} {pre : List Tr}
theorem MetAt.mp (h : MetAt p m om t c pre) : mt p t = true := by
  induction h with
  | hl h1 _ _ _ => rw [mt_fk, h1]; rfl
  | hr h1 _ _ _ => rw [mt_fk, h1]; simp
  | ul _ _ ih => rw [mt_fk, ih]; rfl
  | ur _ _ ih => rw [mt_fk, ih]; simp
theorem MetAt.mm (h : MetAt p m om t c pre) : mt m t = true := by
  induction h with
  | hl _ _ _ h => exact inw_mt h
  | hr _ _ _ h => exact inw_mt h
  | ul _ _ ih => rw [mt_fk, ih]; rfl
  | ur _ _ ih => rw [mt_fk, ih]; simp
theorem MetAt.pres (h : MetAt p m om t c pre) : t.ok → ∀ N ∈ pre, N ∈ t.subs := by
  induction h with
  | hl _ _ _ _ => exact fun _ N hN => sub_fk.mpr (.inr (.inl (anc_sub hN)))
  | hr _ _ _ _ => exact fun _ N hN => sub_fk.mpr (.inr (.inr (anc_sub hN)))
  | ul _ _ ih => exact fun hok N hN => sub_fk.mpr (.inr (.inl (ih hok.1 N hN)))
  | ur _ _ ih => exact fun hok N hN => sub_fk.mpr (.inr (.inr (ih hok.2.1 N hN)))
theorem MetAt.cm (h : MetAt p m om t c pre) : mt m c = true ∧ c ∈ t.subs := by
  induction h with
  | @hl om a b _ _ h1 h =>
    have := inw_mt h
    rw [mt_fk, h1, Bool.false_or] at this
    exact ⟨this, sub_fk.mpr (.inr (.inr (self_sub _)))⟩
  | @hr om a b _ _ h1 h =>
    have := inw_mt h
    rw [mt_fk, h1, Bool.or_false] at this
    exact ⟨this, sub_fk.mpr (.inr (.inl (self_sub _)))⟩
  | ul _ _ ih => exact ⟨ih.1, sub_fk.mpr (.inr (.inl ih.2))⟩
  | ur _ _ ih => exact ⟨ih.1, sub_fk.mpr (.inr (.inr ih.2))⟩
theorem open_of {a b : Tr} (h : inw m om (fk a b) = true) (ha : mt m a = false ∨ mt m b = false) : om = true := by
  rw [inw_fk, Bool.and_eq_true] at h
  rcases ha with ha | ha
  · rw [ha, Bool.false_and] at h; simpa using h.2
  · rw [ha, Bool.and_false] at h; simpa using h.2
theorem mt_M {u : Tr} (hM : ∀ x ∈ u.nm, M x = (p x || m x)) : mt M u = (mt p u || mt m u) := by
  rw [Bool.eq_iff_iff, Bool.or_eq_true, mt_true, mt_true, mt_true]
  constructor
  · rintro ⟨x, hx, e⟩
    rw [hM x hx, Bool.or_eq_true] at e
    rcases e with e | e
    · exact .inl ⟨x, hx, e⟩
    · exact .inr ⟨x, hx, e⟩
  · rintro (⟨x, hx, e⟩ | ⟨x, hx, e⟩)
    · exact ⟨x, hx, by rw [hM x hx, e]; rfl⟩
    · exact ⟨x, hx, by rw [hM x hx, e]; simp⟩
theorem M_l {u : Tr} (hM : ∀ x ∈ u.nm, M x = (p x || m x)) (h : mt m u = false) : ∀ x ∈ u.nm, M x = p x := fun x hx => by
  rw [hM x hx, mt_false.mp h x hx, Bool.or_false]
theorem M_r {u : Tr} (hM : ∀ x ∈ u.nm, M x = (p x || m x)) (h : mt p u = false) : ∀ x ∈ u.nm, M x = m x := fun x hx => by
  rw [hM x hx, mt_false.mp h x hx, Bool.false_or]
theorem M_a {a b : Tr} (hM : ∀ x ∈ (fk a b).nm, M x = (p x || m x)) : ∀ x ∈ a.nm, M x = (p x || m x) := fun x hx => hM x (List.mem_append_left _ hx)
theorem M_b {a b : Tr} (hM : ∀ x ∈ (fk a b).nm, M x = (p x || m x)) : ∀ x ∈ b.nm, M x = (p x || m x) := fun x hx => hM x (List.mem_append_right _ hx)
/-- what is apart from the lot and from the mate, and not between them, is apart from both together -/
theorem MetAt.ap (h : MetAt p m om t c pre) : ∀ {r : Bool}, t.ok → (∀ x ∈ t.nm, M x = (p x || m x)) → (∀ N ∈ pre, N ∈ wayT q r t → False) → Jt.ap p false q r t = true → Jt.ap m om q r t = true → Jt.ap M om q r t = true := by
  induction h with
  | @hl om a b h1 h2 h3 h4 =>
    intro r hok hM hf k l
    obtain ⟨_, k2, _⟩ := ap_fk.mp k
    obtain ⟨_, _, l3⟩ := ap_fk.mp l
    have no : inw q r (fk a b) = false := by
      cases e : inw q r (fk a b) with
      | false => rfl
      | true => exact (ap_not l h4 e).elim
    have ho := open_of h4 (.inl h3)
    subst ho
    rw [h2, Bool.or_false] at k2
    refine ap_fk.mpr ⟨by rw [no, Bool.and_false], ?_, ?_⟩
    · rw [Bool.true_or, ap_congr (M_l (M_a hM) h3) (fun _ _ => rfl)]
      exact ap_up hok.1 (fun N n1 n2 => hf N n1 ((wayT_l hok (anc_sub n1)).mpr n2)) k2
    · rw [Bool.true_or] at l3 ⊢
      rw [ap_congr (M_r (M_b hM) h2) (fun _ _ => rfl)]
      exact l3
  | @hr om a b h1 h2 h3 h4 =>
    intro r hok hM hf k l
    obtain ⟨_, _, k3⟩ := ap_fk.mp k
    obtain ⟨_, l2, _⟩ := ap_fk.mp l
    have no : inw q r (fk a b) = false := by
      cases e : inw q r (fk a b) with
      | false => rfl
      | true => exact (ap_not l h4 e).elim
    have ho := open_of h4 (.inr h3)
    subst ho
    rw [h2, Bool.or_false] at k3
    refine ap_fk.mpr ⟨by rw [no, Bool.and_false], ?_, ?_⟩
    · rw [Bool.true_or] at l2 ⊢
      rw [ap_congr (M_r (M_a hM) h2) (fun _ _ => rfl)]
      exact l2
    · rw [Bool.true_or, ap_congr (M_l (M_b hM) h3) (fun _ _ => rfl)]
      exact ap_up hok.2.1 (fun N n1 n2 => hf N n1 ((wayT_r hok (anc_sub n1)).mpr n2)) k3
  | @ul om a b c pre h1 g ih =>
    intro r hok hM hf k l
    obtain ⟨_, k2, _⟩ := ap_fk.mp k
    obtain ⟨l1, l2, l3⟩ := ap_fk.mp l
    rw [h1, Bool.or_false] at k2
    have e1 : mt M a = true := by rw [mt_M (M_a hM), g.mp]; rfl
    have e2 : mt M b = mt m b := by rw [mt_M (M_b hM), h1]; rfl
    refine ap_fk.mpr ⟨?_, ?_, ?_⟩
    · rw [inw_fk, e1, e2]
      rw [inw_fk (p := m), g.mm] at l1
      exact l1
    · rw [e2]
      exact ih hok.1 (M_a hM) (fun N n1 n2 => hf N n1 ((wayT_l hok (g.pres hok.1 N n1)).mpr n2)) k2 l2
    · rw [e1, ap_congr (M_r (M_b hM) h1) (fun _ _ => rfl)]
      rw [g.mm] at l3
      exact l3
  | @ur om a b c pre h1 g ih =>
    intro r hok hM hf k l
    obtain ⟨_, _, k3⟩ := ap_fk.mp k
    obtain ⟨l1, l2, l3⟩ := ap_fk.mp l
    rw [h1, Bool.or_false] at k3
    have e1 : mt M b = true := by rw [mt_M (M_b hM), g.mp]; rfl
    have e2 : mt M a = mt m a := by rw [mt_M (M_a hM), h1]; rfl
    refine ap_fk.mpr ⟨?_, ?_, ?_⟩
    · rw [inw_fk, e1, e2]
      rw [inw_fk (p := m), g.mm] at l1
      exact l1
    · rw [e1, ap_congr (M_r (M_a hM) h1) (fun _ _ => rfl)]
      rw [g.mm] at l2
      exact l2
    · rw [e2]
      exact ih hok.2.1 (M_b hM) (fun N n1 n2 => hf N n1 ((wayT_r hok (g.pres hok.2.1 N n1)).mpr n2)) k3 l3
/-- the tree to both is the tree to the mate with the lot's put beside -/
theorem MetAt.res (h : MetAt p m om t c pre) : t.ok → (∀ x ∈ t.nm, M x = (p x || m x)) → ∃ S0 P0 x x', Jt.res p t = some S0 ∧ Jt.res m c = some P0 ∧ Jt.res m t = some x ∧ Jt.res M t = some x' ∧ Put P0 S0 x x' := by
  induction h with
  | @hl om a b h1 h2 h3 h4 =>
    intro hok hM
    obtain ⟨S0, e1⟩ := res_some_of h1
    have mb : mt m b = true := by
      have := inw_mt h4
      rw [mt_fk, h3, Bool.false_or] at this; exact this
    obtain ⟨P0, e2⟩ := res_some_of mb
    refine ⟨S0, P0, P0, mk P0 S0, ?_, e2, ?_, ?_, .here⟩
    · show comb _ _ = _; rw [e1, res_none.mpr h2]; rfl
    · show comb _ _ = _; rw [e2, res_none.mpr h3]; rfl
    · show comb _ _ = _
      rw [res_congr (M_l (M_a hM) h3), res_congr (M_r (M_b hM) h2), e1, e2, mk_comm (res_disj (ok_disj hok).symm e2 e1)]; rfl
  | @hr om a b h1 h2 h3 h4 =>
    intro hok hM
    obtain ⟨S0, e1⟩ := res_some_of h1
    have mb : mt m a = true := by
      have := inw_mt h4
      rw [mt_fk, h3, Bool.or_false] at this; exact this
    obtain ⟨P0, e2⟩ := res_some_of mb
    refine ⟨S0, P0, P0, mk P0 S0, ?_, e2, ?_, ?_, .here⟩
    · show comb _ _ = _; rw [e1, res_none.mpr h2]; rfl
    · show comb _ _ = _; rw [e2, res_none.mpr h3]; rfl
    · show comb _ _ = _
      rw [res_congr (M_l (M_b hM) h3), res_congr (M_r (M_a hM) h2), e1, e2]; rfl
  | @ul om a b c pre h1 g ih =>
    intro hok hM
    obtain ⟨S0, P0, x, x', e1, e2, e3, e4, e5⟩ := ih hok.1 (M_a hM)
    have eb : Jt.res M b = Jt.res m b := res_congr (M_r (M_b hM) h1)
    cases e6 : Jt.res m b with
    | none =>
      refine ⟨S0, P0, x, x', ?_, e2, ?_, ?_, e5⟩
      · show comb _ _ = _; rw [e1, res_none.mpr h1]; rfl
      · show comb _ _ = _; rw [e3, e6]; rfl
      · show comb _ _ = _; rw [e4, eb, e6]; rfl
    | some y =>
      refine ⟨S0, P0, mk x y, mk x' y, ?_, e2, ?_, ?_, put_mk_left e5 (res_disj (ok_disj hok) e3 e6) (res_disj (ok_disj hok) e4 e6)⟩
      · show comb _ _ = _; rw [e1, res_none.mpr h1]; rfl
      · show comb _ _ = _; rw [e3, e6]; rfl
      · show comb _ _ = _; rw [e4, eb, e6]; rfl
  | @ur om a b c pre h1 g ih =>
    intro hok hM
    obtain ⟨S0, P0, x, x', e1, e2, e3, e4, e5⟩ := ih hok.2.1 (M_b hM)
    have eb : Jt.res M a = Jt.res m a := res_congr (M_r (M_a hM) h1)
    cases e6 : Jt.res m a with
    | none =>
      refine ⟨S0, P0, x, x', ?_, e2, ?_, ?_, e5⟩
      · show comb _ _ = _; rw [e1, res_none.mpr h1]; rfl
      · show comb _ _ = _; rw [e3, e6]; rfl
      · show comb _ _ = _; rw [e4, eb, e6]; rfl
    | some y =>
      refine ⟨S0, P0, mk y x, mk y x', ?_, e2, ?_, ?_, put_mk_right e5 (res_disj (ok_disj hok) e6 e3) (res_disj (ok_disj hok) e6 e4)⟩
      · show comb _ _ = _; rw [e1, res_none.mpr h1]; rfl
      · show comb _ _ = _; rw [e3, e6]; rfl
      · show comb _ _ = _; rw [e4, eb, e6]; rfl
theorem anc_last (h : mt p t = true) : inw p false t = true ∧ anc p t = [] ∨ ∃ l, anc p t = l ++ [t] := by
  cases t with
  | lf i => rw [mt_lf] at h; exact .inl ⟨h, rfl⟩
  | fk a b =>
    cases ha : mt p a with
    | true =>
      cases hb : mt p b with
      | true => exact .inl ⟨by rw [inw_fk, ha, hb]; rfl, anc_both ha hb⟩
      | false => exact .inr ⟨_, anc_l ha hb⟩
    | false =>
      rw [mt_fk, ha, Bool.false_or] at h
      exact .inr ⟨_, anc_r ha h⟩
theorem snoc_split {α : Type} {l pre post : List α} {x y : α} (h : l ++ [x] = pre ++ y :: post) : (pre = l ∧ y = x ∧ post = []) ∨ ∃ post', post = post' ++ [x] ∧ l = pre ++ y :: post' := by
  rcases List.eq_nil_or_concat post with e | ⟨post', z, e⟩
  · subst e
    have := List.append_inj' h rfl
    exact .inl ⟨this.1.symm, by have := this.2; simp at this; exact this.symm, rfl⟩
  · rw [List.concat_eq_append] at e
    subst e
    have h2 : l ++ [x] = (pre ++ y :: post') ++ [z] := by rw [h]; simp
    have := List.append_inj' h2 rfl
    have ez : z = x := by have := this.2; simp at this; exact this.symm
    subst ez
    exact .inr ⟨post', rfl, this.1⟩
theorem metAt_of : ∀ {t : Tr} {om : Bool} {pre post : List Tr} {N : Tr}, t.ok → mt p t = true → ap p false m om t = true → anc p t = pre ++ N :: post → (∀ N' ∈ pre, N' ∈ wayT m om t → False) → N ∈ wayT m om t →
    ∃ c, MetAt p m om t c pre ∧ ∀ x, x ∈ c.nm ∧ m x = true ↔ x ∈ N.nm ∧ m x = true
  | lf i, om, pre, post, N, _, _, _, h, _, _ => by
    have : ([] : List Tr) = pre ++ N :: post := h
    cases pre <;> cases this
  | fk a b, om, pre, post, N, hok, hm, hap, h, hpre, hN => by
    obtain ⟨_, k2, k3⟩ := ap_fk.mp hap
    cases ha : mt p a with
    | true =>
      cases hb : mt p b with
      | true =>
        rw [anc_both ha hb] at h
        cases pre <;> cases h
      | false =>
        rw [anc_l ha hb] at h
        rw [hb, Bool.or_false] at k2
        rcases snoc_split h with ⟨e1, e2, _⟩ | ⟨post', _, e⟩
        · subst e1; subst e2
          have hi := wayT_self.mp hN
          have hma : mt m a = false := by
            cases e : mt m a with
            | false => rfl
            | true =>
              exfalso
              have fl : (om || mt m b) = true := by
                rw [inw_fk, e, Bool.true_and, Bool.true_or, Bool.true_and] at hi; exact hi
              rcases anc_last ha with ⟨z, _⟩ | ⟨l, z⟩
              · exact ap_not k2 z (by rw [fl, inw_true]; exact e)
              · refine hpre a (by rw [z]; simp) ((wayT_l hok (self_sub _)).mpr (wayT_self.mpr ?_))
                rw [fl, inw_true]; exact e
          refine ⟨b, .hl ha hb hma hi, fun x => ⟨fun h => ⟨List.mem_append_right _ h.1, h.2⟩, fun h => ⟨?_, h.2⟩⟩⟩
          rcases List.mem_append.mp h.1 with h1 | h1
          · rw [mt_false.mp hma x h1] at h; exact nomatch h.2
          · exact h1
        · have sN : N ∈ a.subs := anc_sub (p := p) (by rw [e]; simp)
          obtain ⟨c, c1, c2⟩ := metAt_of hok.1 ha k2 e (fun N' n1 n2 => hpre N' n1 ((wayT_l hok (wayT_sub n2)).mpr n2)) ((wayT_l hok sN).mp hN)
          exact ⟨c, .ul hb c1, c2⟩
    | false =>
      have hb : mt p b = true := by rw [mt_fk, ha, Bool.false_or] at hm; exact hm
      rw [anc_r ha hb] at h
      rw [ha, Bool.or_false] at k3
      rcases snoc_split h with ⟨e1, e2, _⟩ | ⟨post', _, e⟩
      · subst e1; subst e2
        have hi := wayT_self.mp hN
        have hmb : mt m b = false := by
          cases e : mt m b with
          | false => rfl
          | true =>
            exfalso
            have fl : (om || mt m a) = true := by
              rw [inw_fk, e, Bool.and_true, Bool.or_true, Bool.true_and] at hi; exact hi
            rcases anc_last hb with ⟨z, _⟩ | ⟨l, z⟩
            · exact ap_not k3 z (by rw [fl, inw_true]; exact e)
            · refine hpre b (by rw [z]; simp) ((wayT_r hok (self_sub _)).mpr (wayT_self.mpr ?_))
              rw [fl, inw_true]; exact e
        refine ⟨a, .hr hb ha hmb hi, fun x => ⟨fun h => ⟨List.mem_append_left _ h.1, h.2⟩, fun h => ⟨?_, h.2⟩⟩⟩
        rcases List.mem_append.mp h.1 with h1 | h1
        · exact h1
        · rw [mt_false.mp hmb x h1] at h; exact nomatch h.2
      · have sN : N ∈ b.subs := anc_sub (p := p) (by rw [e]; simp)
        obtain ⟨c, c1, c2⟩ := metAt_of hok.2.1 hb k3 e (fun N' n1 n2 => hpre N' n1 ((wayT_r hok (wayT_sub n2)).mpr n2)) ((wayT_r hok sN).mp hN)
        exact ⟨c, .ur ha c1, c2⟩
end
end Jt
end

section
set_option Elab.async false
set_option linter.all false
namespace Jt
open Tr
/-! ### forests -/
abbrev el (l : List Nat) : Nat → Bool := fun x => decide (x ∈ l)
theorem el_true {l : List Nat} {x : Nat} : el l x = true ↔ x ∈ l := decide_eq_true_iff
theorem el_false {l : List Nat} {x : Nat} : el l x = false ↔ x ∉ l := decide_eq_false_iff_not
def Apart (T : Tr) (top : List Nat) (others : List (List Nat)) : Prop :=
  (∀ l ∈ others, ap (el top) true (el l) false T = true) ∧ others.Pairwise fun l m => ap (el l) false (el m) false T = true
/-- a forest of two trees -/
structure Fo (T G : Tr) (top : List Nat) (others : List (List Nat)) : Prop where
  same : ∀ x, x ∈ T.nm ↔ x ∈ G.nm
  cov : ∀ x, x ∈ T.nm ↔ x ∈ top ∨ ∃ l ∈ others, x ∈ l
  ne : ∀ l ∈ others, l ≠ []
  dj : ∀ l ∈ others, ∀ x ∈ top, x ∉ l
  djs : others.Pairwise fun l m => ∀ x ∈ l, x ∉ m
  agT : res (el top) T = res (el top) G
  ag : ∀ l ∈ others, res (el l) T = res (el l) G
  apT : Apart T top others
  apG : Apart G top others
theorem ap_sym (T : Tr) (l m : List Nat) (h : ap (el l) false (el m) false T = true) : ap (el m) false (el l) false T = true := by rw [ap_comm]; exact h
theorem Apart.perm {T : Tr} {top : List Nat} {o o' : List (List Nat)} (h : Apart T top o) (p : o.Perm o') : Apart T top o' :=
  ⟨fun l hl => h.1 l (p.mem_iff.mpr hl), (p.pairwise_iff (fun {l m} k => ap_sym T l m k)).mp h.2⟩
theorem Fo.perm {T G : Tr} {top : List Nat} {o o' : List (List Nat)} (h : Fo T G top o) (p : o.Perm o') : Fo T G top o' where
  same := h.same
  cov := fun x => by
    rw [h.cov]
    constructor
    · rintro (k | ⟨l, hl, k⟩)
      · exact .inl k
      · exact .inr ⟨l, p.mem_iff.mp hl, k⟩
    · rintro (k | ⟨l, hl, k⟩)
      · exact .inl k
      · exact .inr ⟨l, p.mem_iff.mpr hl, k⟩
  ne := fun l hl => h.ne l (p.mem_iff.mpr hl)
  dj := fun l hl => h.dj l (p.mem_iff.mpr hl)
  djs := (p.pairwise_iff (fun {l m} k x hx hm => k x hm hx)).mp h.djs
  agT := h.agT
  ag := fun l hl => h.ag l (p.mem_iff.mpr hl)
  apT := h.apT.perm p
  apG := h.apG.perm p
theorem Fo.symm {T G : Tr} {top : List Nat} {o : List (List Nat)} (h : Fo T G top o) : Fo G T top o where
  same := fun x => (h.same x).symm
  cov := fun x => (h.same x).symm.trans (h.cov x)
  ne := h.ne
  dj := h.dj
  djs := h.djs
  agT := h.agT.symm
  ag := fun l hl => (h.ag l hl).symm
  apT := h.apG
  apG := h.apT
/-- a tree with itself: all names on top -/
theorem fo_self {T : Tr} {top : List Nat} (h : ∀ x, x ∈ T.nm ↔ x ∈ top) : Fo T T top [] where
  same := fun _ => Iff.rfl
  cov := fun x => by rw [h]; simp
  ne := fun l hl => by cases hl
  dj := fun l hl => by cases hl
  djs := .nil
  agT := rfl
  ag := fun l hl => by cases hl
  apT := ⟨fun l hl => (by cases hl), .nil⟩
  apG := ⟨fun l hl => (by cases hl), .nil⟩
section
variable {T G : Tr} {top : List Nat} {o : List (List Nat)}
theorem Fo.mtl (h : Fo T G top o) {l : List Nat} (hl : l ∈ o) : mt (el l) T = true ∧ mt (el l) G = true := by
  obtain ⟨x, xs, e⟩ := List.exists_cons_of_ne_nil (h.ne l hl)
  have hx : x ∈ l := by rw [e]; simp
  have hT : x ∈ T.nm := (h.cov x).mpr (.inr ⟨l, hl, hx⟩)
  exact ⟨mt_true.mpr ⟨x, hT, el_true.mpr hx⟩, mt_true.mpr ⟨x, (h.same x).mp hT, el_true.mpr hx⟩⟩
/-- one of the others has just the names of a subtree -/
theorem Fo.free (h : Fo T G top o) (hT : T.ok) (hne : o ≠ []) : ∃ l ∈ o, ∃ S ∈ T.subs, ∀ x, x ∈ S.nm ↔ x ∈ l := by
  obtain ⟨l0, o', e⟩ := List.exists_cons_of_ne_nil hne
  have hl0 : l0 ∈ o := by rw [e]; simp
  obtain ⟨c, c1, c2, S, s1, s2, s3⟩ := free_ex (t := T) ((el top, true) :: o.map fun l => (el l, false)) hT (fun x hx => by
      rcases (h.cov x).mp hx with k | ⟨l, hl, k⟩
      · exact ⟨_, List.mem_cons_self, el_true.mpr k⟩
      · exact ⟨_, List.mem_cons_of_mem _ (List.mem_map.mpr ⟨l, hl, rfl⟩), el_true.mpr k⟩)
    (by
      rw [List.pairwise_cons, List.pairwise_map]
      refine ⟨fun c hc => ?_, h.apT.2⟩
      obtain ⟨l, hl, rfl⟩ := List.mem_map.mp hc
      exact h.apT.1 l hl)
    ⟨(el l0, false), List.mem_cons_of_mem _ (List.mem_map.mpr ⟨l0, hl0, rfl⟩), rfl, (h.mtl hl0).1⟩
  rcases List.mem_cons.mp c1 with e | c1
  · subst e; cases c2
  · obtain ⟨l, hl, rfl⟩ := List.mem_map.mp c1
    refine ⟨l, hl, S, s1, fun x => ⟨fun k => el_true.mp (s2 x k), fun k => s3 x ((h.cov x).mpr (.inr ⟨l, hl, k⟩)) (el_true.mpr k)⟩⟩
end

/-! ### one step from the one tree towards the other -/
section
variable {T G S : Tr} {top L : List Nat} {o : List (List Nat)}
/-- what is left of a forest without one of its others -/
theorem Fo.tail_mem (h : Fo T G top (L :: o)) {l : List Nat} (hl : l ∈ o) : (∀ x ∈ l, x ∉ L) ∧ ap (el L) false (el l) false T = true ∧ ap (el L) false (el l) false G = true :=
  ⟨fun x hx hL => List.rel_of_pairwise_cons h.djs hl x hL hx, List.rel_of_pairwise_cons h.apT.2 hl, List.rel_of_pairwise_cons h.apG.2 hl⟩
theorem el_disj_S {l : List Nat} (hS : ∀ x, x ∈ S.nm ↔ x ∈ L) (h : ∀ x ∈ l, x ∉ L) : mt (el l) S = false :=
  mt_false.mpr fun x hx => el_false.mpr fun k => h x k ((hS x).mp hx)
/-- all lots apart in the moved tree that were apart and do not meet what is moved -/
theorem Mv.apart {R P T' : Tr} {p q : Nat → Bool} {a b : Bool} (m : Mv S R P T T') (hT : T.ok) (hp : ∀ x, p x = true → x ∉ S.nm) (hq : ∀ x, q x = true → x ∉ S.nm) (h : ap p a q b T = true) : ap p a q b T' = true := by
  have h1 : ap p a q b R = ap p a q b T := ap_res (fun x e => by simp [hp x e]) (fun x e => by simp [hq x e]) m.rest
  have e : res (fun x => decide (x ∉ S.nm)) T' = some R := by
    rw [m.out hT (mt_false.mpr fun x hx => by simp [hx])]; exact m.rest
  have h2 : ap p a q b R = ap p a q b T' := ap_res (fun x e => by simp [hp x e]) (fun x e => by simp [hq x e]) e
  rw [← h2, h1]; exact h
/-- no other lot stands above: the lot becomes the top one, put beside all that is left, or is all -/
theorem Fo.alone (h : Fo T G top (L :: o)) (hT : T.ok) (hG : G.ok) (hS : ∀ x, x ∈ S.nm ↔ x ∈ L) (hsub : S ∈ T.subs)
    (hf : ∀ N ∈ anc (el L) G, ∀ l ∈ o, N ∈ wayT (el l) false G → False) (hft : ∀ N ∈ anc (el L) G, N ∈ wayT (el top) true G → False) :
    top = [] ∧ (S = T → Fo T G L o) ∧ ∀ R T', Mv S R R T T' → Fo T' G L o := by
  have hL : L ∈ L :: o := List.mem_cons_self
  have mL := h.mtl hL
  have htop : top = [] := by
    cases top with
    | nil => rfl
    | cons x xs =>
      exfalso
      have hx : x ∈ G.nm := (h.same x).mp ((h.cov x).mpr (.inl List.mem_cons_self))
      have w : inw (el (x :: xs)) true G = true := by rw [inw_true]; exact mt_true.mpr ⟨x, hx, el_true.mpr List.mem_cons_self⟩
      rcases anc_last mL.2 with ⟨z, _⟩ | ⟨l, z⟩
      · exact ap_not (h.apG.1 L hL) w z
      · exact hft G (by rw [z]; simp) (wayT_self.mpr w)
  subst htop
  refine ⟨rfl, ?_, ?_⟩
  · intro e
    subst e
    have hall : o = [] := by
      cases o with
      | nil => rfl
      | cons l r =>
        exfalso
        have hl : l ∈ l :: r := List.mem_cons_self
        obtain ⟨x, xs, e⟩ := List.exists_cons_of_ne_nil (h.ne l (List.mem_cons_of_mem _ hl))
        have hx : x ∈ l := by rw [e]; simp
        exact (h.tail_mem hl).1 x hx ((hS x).mp ((h.cov x).mpr (.inr ⟨l, List.mem_cons_of_mem _ hl, hx⟩)))
    subst hall
    exact ⟨h.same, fun x => by rw [hS]; simp, fun l hl => (by cases hl), fun l hl => (by cases hl), .nil, h.ag L hL, fun l hl => (by cases hl),
      ⟨fun l hl => (by cases hl), .nil⟩, ⟨fun l hl => (by cases hl), .nil⟩⟩
  · intro R T' m
    have apo : ∀ l ∈ o, ap (el L) true (el l) false T' = true := fun l hl => by
      have e : T' = Jt.mk R S := m.put.det (m.okR hT) .here
      rw [e, ap_mk]
      have m1 : mt (el L) R = false := mt_false.mpr fun x hx => el_false.mpr fun k => m.disj x hx ((hS x).mpr k)
      have m2 : mt (el l) S = false := el_disj_S hS (h.tail_mem hl).1
      refine ap_fk.mpr ⟨?_, ap_no m1, ap_no' m2⟩
      rw [inw_fk (p := el l), m2]; simp
    refine ⟨fun x => (m.nm x).trans (h.same x), fun x => ?_, fun l hl => h.ne l (List.mem_cons_of_mem _ hl), fun l hl x hx hl' => (h.tail_mem hl).1 x hl' hx, h.djs.of_cons, ?_, fun l hl => ?_, ⟨apo, ?_⟩, ⟨fun l hl => ?_, h.apG.2.of_cons⟩⟩
    · rw [m.nm, h.cov]
      constructor
      · rintro (k | ⟨l, hl, k⟩)
        · cases k
        · rcases List.mem_cons.mp hl with e | hl
          · subst e; exact .inl k
          · exact .inr ⟨l, hl, k⟩
      · rintro (k | ⟨l, hl, k⟩)
        · exact .inr ⟨L, hL, k⟩
        · exact .inr ⟨l, List.mem_cons_of_mem _ hl, k⟩
    · rw [m.inn hT fun x e => (hS x).mpr (el_true.mp e)]
      exact h.ag L hL
    · rw [m.out hT (el_disj_S hS (h.tail_mem hl).1)]
      exact h.ag l (List.mem_cons_of_mem _ hl)
    · refine List.Pairwise.imp_of_mem (fun {l k} hl hk q => ?_) h.apT.2.of_cons
      exact m.apart hT (fun x e hx => (h.tail_mem hl).1 x (el_true.mp e) ((hS x).mp hx)) (fun x e hx => (h.tail_mem hk).1 x (el_true.mp e) ((hS x).mp hx)) q
    · exact ap_up hG (fun N n1 n2 => hf N n1 l hl n2) (h.tail_mem hl).2.2
/-- the joining of a free lot with the mate that it meets first: what is true of the new trees and of the new lot -/
theorem join_core {R P T' c : Tr} {pre : List Tr} {mate M ns : List Nat} {om : Bool} (hT : T.ok) (hG : G.ok) (hS : ∀ x, x ∈ S.nm ↔ x ∈ L) (hsub : S ∈ T.subs) (hsame : ∀ x, x ∈ T.nm ↔ x ∈ G.nm)
    (hmL : ∀ x ∈ mate, x ∉ L) (hM : ∀ x, x ∈ M ↔ x ∈ L ∨ x ∈ mate) (ag1 : res (el L) T = res (el L) G) (ag2 : res (el mate) T = res (el mate) G)
    (k : MetAt (el L) (el mate) om G c pre) (hns : ∀ x, x ∈ ns ↔ x ∈ c.nm ∧ x ∈ mate) (m : Mv S R P T T') (hP : P = hd (el ns) R) :
    res (el M) T' = res (el M) G ∧
    (∀ q r, (∀ x, q x = true → x ∉ L) → ap (el mate) om q r T = true → ap (el M) om q r T' = true) ∧
    (∀ q r, (∀ N ∈ pre, N ∈ wayT q r G → False) → ap (el L) false q r G = true → ap (el mate) om q r G = true → ap (el M) om q r G = true) := by
  have eM : ∀ x, el M x = (el L x || el mate x) := fun x => by
    rw [Bool.eq_iff_iff, Bool.or_eq_true, el_true, el_true, el_true]; exact hM x
  have okR := m.okR hT
  have okS := m.okS hT
  -- G's part
  obtain ⟨S0, P0, x, x', e1, e2, e3, e4, e5⟩ := k.res (M := el M) hG fun x _ => eM x
  have eS : S0 = S := by
    have : res (el L) T = some S := by
      rw [res_in hT hsub fun x _ e => (hS x).mpr (el_true.mp e)]
      exact res_all okS fun x hx => el_true.mpr ((hS x).mp hx)
    rw [ag1, e1] at this
    exact Option.some.inj this
  subst eS
  -- the mate in what is left
  have mR : ∀ x, el mate x = true → decide (x ∉ S0.nm) = true := fun x e => by
    have : x ∉ S0.nm := fun h => hmL x (el_true.mp e) ((hS x).mp h)
    simp [this]
  have resR : res (el mate) R = some x := by
    have h1 := res_res (q := el mate) (p := fun x => decide (x ∉ S0.nm)) hT
    rw [m.rest] at h1
    have h2 : res (fun x => decide (x ∉ S0.nm) && el mate x) T = res (el mate) T := res_congr fun x _ => by
      cases e : el mate x with
      | false => simp
      | true => rw [mR x e]; rfl
    rw [h2, ag2, e3] at h1
    exact h1
  have okx : x.ok := res_ok hG e3
  -- the names by which the place is found
  have nP0 : ∀ y, y ∈ P0.nm ↔ y ∈ ns := fun y => by rw [res_mem e2, hns, el_true]
  have nsm : ∀ y ∈ ns, y ∈ mate := fun y hy => ((hns y).mp hy).2
  have nsR : ∀ y ∈ ns, y ∈ R.nm := fun y hy => ((res_mem resR y).mp (sub_nm e5.sub y ((nP0 y).mpr hy))).1
  have mns : mt (el ns) R = true := by
    have h1 := fst_mem P0
    exact mt_true.mpr ⟨P0.fst, nsR _ ((nP0 _).mp h1), el_true.mpr ((nP0 _).mp h1)⟩
  obtain ⟨Z, z1, z2⟩ := sub_of_res resR e5.sub
  have PZ : P ∈ Z.subs := by
    rw [hP]
    exact hd_least okR mns z1 fun y _ e => ((res_mem z2 y).mp ((nP0 y).mpr (el_true.mp e))).1
  have hPin : inw (el ns) false P = true := by rw [hP]; exact hd_inw mns
  have hPhas : ∀ y ∈ ns, y ∈ P.nm := fun y hy => by rw [hP]; exact hd_has y (nsR y hy) (el_true.mpr hy)
  have mP : mt (el mate) P = true := mt_mono (fun y e => el_true.mpr (nsm y (el_true.mp e))) (inw_mt hPin)
  obtain ⟨P1, p1⟩ := res_some_of mP
  have nP1 : ∀ y, y ∈ P1.nm ↔ y ∈ ns := fun y => by
    rw [res_mem p1]
    constructor
    · rintro ⟨h1, h2⟩
      exact (nP0 y).mp ((res_mem z2 y).mpr ⟨sub_nm PZ y h1, h2⟩)
    · intro h
      exact ⟨hPhas y h, el_true.mpr (nsm y h)⟩
  have eP : P1 = P0 := by
    obtain ⟨x2, h1, h2⟩ := sub_res okR m.put.sub p1
    rw [resR] at h1
    cases h1
    exact sub_inj okx h2 e5.sub fun y => (nP1 y).trans (nP0 y).symm
  subst eP
  -- M on what is left is the mate
  have MR : ∀ y ∈ R.nm, el M y = el mate y := fun y hy => by
    have : y ∉ L := fun h => m.disj y hy ((hS y).mpr h)
    rw [eM, el_false.mpr this, Bool.false_or]
  have MP : res (el M) P = some P1 := by
    rw [res_congr fun y hy => MR y (sub_nm m.put.sub y hy)]; exact p1
  obtain ⟨u, u', u1, u2, u3⟩ := m.put.resM okR okS m.disj (fun y hy => by rw [eM, el_true.mpr ((hS y).mp hy)]; rfl) MP
  have eu : u = x := by
    rw [res_congr MR, resR] at u1
    exact (Option.some.inj u1).symm
  subst eu
  refine ⟨?_, fun q r hq h => ?_, fun q r hf h1 h2 => ?_⟩
  · rw [u2, e4, u3.det okx e5]
  · have hqS : ∀ y ∈ S0.nm, q y = false := fun y hy => by
      cases e : q y with
      | false => rfl
      | true => exact (hq y e ((hS y).mp hy)).elim
    have h1 : ap (el mate) om q r R = ap (el mate) om q r T := ap_res mR (fun y e => by
      have : y ∉ S0.nm := fun z => hq y e ((hS y).mp z)
      simp [this]) m.rest
    refine m.put.ap (fun y hy => by rw [eM, el_true.mpr ((hS y).mp hy)]; rfl) hqS (inw_mono (fun y e => ?_) (fun z => z) hPin) ?_
    · rw [eM, el_true.mpr (nsm y (el_true.mp e)), Bool.or_true]
    · rw [ap_congr MR (fun _ _ => rfl), h1]; exact h
  · exact k.ap hG (fun y _ => eM y) hf h1 h2
/-- a free lot is joined with the top one -/
theorem Fo.joinTop {R P T' : Tr} {pre post : List Tr} {N : Tr} {M ns : List Nat} (h : Fo T G top (L :: o)) (hT : T.ok) (hG : G.ok) (hS : ∀ x, x ∈ S.nm ↔ x ∈ L) (hsub : S ∈ T.subs)
    (ha : anc (el L) G = pre ++ N :: post) (hf : ∀ N' ∈ pre, ∀ l ∈ o, N' ∈ wayT (el l) false G → False) (hft : ∀ N' ∈ pre, N' ∈ wayT (el top) true G → False) (hN : N ∈ wayT (el top) true G)
    (hns : ∀ x, x ∈ ns ↔ x ∈ N.nm ∧ x ∈ top) (hM : ∀ x, x ∈ M ↔ x ∈ L ∨ x ∈ top) (m : Mv S R P T T') (hP : P = hd (el ns) R) : Fo T' G M o := by
  have hL : L ∈ L :: o := List.mem_cons_self
  obtain ⟨c, km, hc⟩ := metAt_of hG (h.mtl hL).2 (by rw [ap_comm]; exact h.apG.1 L hL) ha hft hN
  have hns' : ∀ x, x ∈ ns ↔ x ∈ c.nm ∧ x ∈ top := fun x => by
    rw [hns]
    have := hc x
    rw [el_true] at this
    exact this.symm
  obtain ⟨r1, r2, r3⟩ := join_core hT hG hS hsub h.same (fun x hx => h.dj L hL x hx) hM (h.ag L hL) h.agT km hns' m hP
  refine ⟨fun x => (m.nm x).trans (h.same x), fun x => ?_, fun l hl => h.ne l (List.mem_cons_of_mem _ hl), fun l hl x hx hl' => ?_, h.djs.of_cons, r1, fun l hl => ?_, ⟨fun l hl => ?_, ?_⟩, ⟨fun l hl => ?_, h.apG.2.of_cons⟩⟩
  · rw [m.nm, h.cov, hM]
    constructor
    · rintro (k | ⟨l, hl, k⟩)
      · exact .inl (.inr k)
      · rcases List.mem_cons.mp hl with e | hl
        · subst e; exact .inl (.inl k)
        · exact .inr ⟨l, hl, k⟩
    · rintro ((k | k) | ⟨l, hl, k⟩)
      · exact .inr ⟨L, hL, k⟩
      · exact .inl k
      · exact .inr ⟨l, List.mem_cons_of_mem _ hl, k⟩
  · rcases (hM x).mp hx with k | k
    · exact (h.tail_mem hl).1 x hl' k
    · exact h.dj l (List.mem_cons_of_mem _ hl) x k hl'
  · rw [m.out hT (el_disj_S hS (h.tail_mem hl).1)]
    exact h.ag l (List.mem_cons_of_mem _ hl)
  · exact r2 _ _ (fun x e => (h.tail_mem hl).1 x (el_true.mp e)) (h.apT.1 l (List.mem_cons_of_mem _ hl))
  · refine List.Pairwise.imp_of_mem (fun {l k} hl hk q => ?_) h.apT.2.of_cons
    exact m.apart hT (fun x e hx => (h.tail_mem hl).1 x (el_true.mp e) ((hS x).mp hx)) (fun x e hx => (h.tail_mem hk).1 x (el_true.mp e) ((hS x).mp hx)) q
  · exact r3 _ _ (fun N' n1 n2 => hf N' n1 l hl n2) (h.tail_mem hl).2.2 (h.apG.1 l (List.mem_cons_of_mem _ hl))
/-- a free lot is joined with another one -/
theorem Fo.joinOne {R P T' : Tr} {pre post : List Tr} {N : Tr} {mate M ns : List Nat} (h : Fo T G top (L :: mate :: o)) (hT : T.ok) (hG : G.ok) (hS : ∀ x, x ∈ S.nm ↔ x ∈ L) (hsub : S ∈ T.subs)
    (ha : anc (el L) G = pre ++ N :: post) (hf : ∀ N' ∈ pre, ∀ l ∈ mate :: o, N' ∈ wayT (el l) false G → False) (hft : ∀ N' ∈ pre, N' ∈ wayT (el top) true G → False) (hN : N ∈ wayT (el mate) false G)
    (hns : ∀ x, x ∈ ns ↔ x ∈ N.nm ∧ x ∈ mate) (hM : ∀ x, x ∈ M ↔ x ∈ L ∨ x ∈ mate) (m : Mv S R P T T') (hP : P = hd (el ns) R) : Fo T' G top (M :: o) := by
  have hL : L ∈ L :: mate :: o := List.mem_cons_self
  have hm : mate ∈ mate :: o := List.mem_cons_self
  have hm' : mate ∈ L :: mate :: o := List.mem_cons_of_mem _ hm
  obtain ⟨c, km, hc⟩ := metAt_of hG (h.mtl hL).2 (h.tail_mem hm).2.2 ha (fun N' n1 n2 => hf N' n1 mate hm n2) hN
  have hns' : ∀ x, x ∈ ns ↔ x ∈ c.nm ∧ x ∈ mate := fun x => by
    rw [hns]
    have := hc x
    rw [el_true] at this
    exact this.symm
  obtain ⟨r1, r2, r3⟩ := join_core hT hG hS hsub h.same (h.tail_mem hm).1 hM (h.ag L hL) (h.ag mate hm') km hns' m hP
  have ht := h.djs.of_cons
  have hmo : ∀ l ∈ o, ∀ x ∈ mate, x ∉ l := fun l hl => List.rel_of_pairwise_cons ht hl
  have inO : ∀ {l}, l ∈ o → l ∈ mate :: o := fun hl => List.mem_cons_of_mem _ hl
  refine ⟨fun x => (m.nm x).trans (h.same x), fun x => ?_, fun l hl => ?_, fun l hl x hx hl' => ?_, ?_, ?_, fun l hl => ?_, ⟨fun l hl => ?_, ?_⟩, ⟨fun l hl => ?_, ?_⟩⟩
  · rw [m.nm, h.cov]
    constructor
    · rintro (k | ⟨l, hl, k⟩)
      · exact .inl k
      · rcases List.mem_cons.mp hl with e | hl
        · subst e; exact .inr ⟨M, List.mem_cons_self, (hM x).mpr (.inl k)⟩
        · rcases List.mem_cons.mp hl with e | hl
          · subst e; exact .inr ⟨M, List.mem_cons_self, (hM x).mpr (.inr k)⟩
          · exact .inr ⟨l, List.mem_cons_of_mem _ hl, k⟩
    · rintro (k | ⟨l, hl, k⟩)
      · exact .inl k
      · rcases List.mem_cons.mp hl with e | hl
        · subst e
          rcases (hM x).mp k with k | k
          · exact .inr ⟨L, hL, k⟩
          · exact .inr ⟨mate, hm', k⟩
        · exact .inr ⟨l, List.mem_cons_of_mem _ (inO hl), k⟩
  · rcases List.mem_cons.mp hl with e | hl
    · subst e
      intro e
      obtain ⟨x, xs, e'⟩ := List.exists_cons_of_ne_nil (h.ne L hL)
      have : x ∈ l := (hM x).mpr (.inl (by rw [e']; simp))
      rw [e] at this; cases this
    · exact h.ne l (List.mem_cons_of_mem _ (inO hl))
  · rcases List.mem_cons.mp hl with e | hl
    · subst e
      rcases (hM x).mp hl' with k | k
      · exact h.dj L hL x hx k
      · exact h.dj mate hm' x hx k
    · exact h.dj l (List.mem_cons_of_mem _ (inO hl)) x hx hl'
  · refine List.pairwise_cons.mpr ⟨fun l hl x hx hl' => ?_, ht.of_cons⟩
    rcases (hM x).mp hx with k | k
    · exact (h.tail_mem (inO hl)).1 x hl' k
    · exact hmo l hl x k hl'
  · rw [m.out hT (el_disj_S hS fun x hx => h.dj L hL x hx)]; exact h.agT
  · rcases List.mem_cons.mp hl with e | hl
    · subst e; exact r1
    · rw [m.out hT (el_disj_S hS (h.tail_mem (inO hl)).1)]
      exact h.ag l (List.mem_cons_of_mem _ (inO hl))
  · rcases List.mem_cons.mp hl with e | hl
    · subst e
      rw [ap_comm]
      refine r2 _ _ (fun x e => h.dj L hL x (el_true.mp e)) ?_
      rw [ap_comm]; exact h.apT.1 mate hm'
    · exact m.apart hT (fun x e hx => h.dj L hL x (el_true.mp e) ((hS x).mp hx)) (fun x e hx => (h.tail_mem (inO hl)).1 x (el_true.mp e) ((hS x).mp hx)) (h.apT.1 l (List.mem_cons_of_mem _ (inO hl)))
  · refine List.pairwise_cons.mpr ⟨fun l hl => ?_, ?_⟩
    · exact r2 _ _ (fun x e => (h.tail_mem (inO hl)).1 x (el_true.mp e)) (List.rel_of_pairwise_cons h.apT.2.of_cons hl)
    · refine List.Pairwise.imp_of_mem (fun {l k} hl hk q => ?_) h.apT.2.of_cons.of_cons
      exact m.apart hT (fun x e hx => (h.tail_mem (inO hl)).1 x (el_true.mp e) ((hS x).mp hx)) (fun x e hx => (h.tail_mem (inO hk)).1 x (el_true.mp e) ((hS x).mp hx)) q
  · rcases List.mem_cons.mp hl with e | hl
    · subst e
      rw [ap_comm]
      refine r3 _ _ hft ?_ ?_
      · rw [ap_comm]; exact h.apG.1 L hL
      · rw [ap_comm]; exact h.apG.1 mate hm'
    · exact h.apG.1 l (List.mem_cons_of_mem _ (inO hl))
  · refine List.pairwise_cons.mpr ⟨fun l hl => ?_, h.apG.2.of_cons.of_cons⟩
    exact r3 _ _ (fun N' n1 n2 => hf N' n1 l (inO hl) n2) (h.tail_mem (inO hl)).2.2 (List.rel_of_pairwise_cons h.apG.2.of_cons hl)
end
end Jt
end

section
set_option Elab.async false
set_option linter.all false
namespace Jt
open Tr
/-! ### a move cuts a forest at one place at most -/
section
variable {T G S : Tr} {top l : List Nat} {o : List (List Nat)} {p q : Nat → Bool}
theorem wayT_open : ∀ {t : Tr} {o : Bool}, t.ok → S ∈ t.subs → mt p S = true → (o = true ∨ ∃ y ∈ t.nm, y ∉ S.nm ∧ p y = true) → S ∈ wayT p o t
  | lf i, o, _, h, hm, hy => by
    simp [Tr.subs] at h; subst h
    refine wayT_self.mpr ?_
    rw [mt_lf] at hm; exact hm
  | fk a b, o, hok, h, hm, hy => by
    rcases sub_fk.mp h with e | h | h
    · subst e
      rcases hy with e | ⟨y, h1, h2, _⟩
      · subst e; exact wayT_self.mpr (by rw [inw_true]; exact hm)
      · exact (h2 h1).elim
    · refine (wayT_l hok h).mpr (wayT_open hok.1 h hm ?_)
      rcases hy with e | ⟨y, h1, h2, h3⟩
      · exact .inl (by rw [e]; rfl)
      · rcases List.mem_append.mp h1 with h1 | h1
        · exact .inr ⟨y, h1, h2, h3⟩
        · exact .inl (by rw [mt_true.mpr ⟨y, h1, h3⟩]; simp)
    · refine (wayT_r hok h).mpr (wayT_open hok.2.1 h hm ?_)
      rcases hy with e | ⟨y, h1, h2, h3⟩
      · exact .inl (by rw [e]; rfl)
      · rcases List.mem_append.mp h1 with h1 | h1
        · exact .inl (by rw [mt_true.mpr ⟨y, h1, h3⟩]; simp)
        · exact .inr ⟨y, h1, h2, h3⟩
/-- the two parts of a lot, within a subtree of the one tree and without, are apart in both trees -/
theorem split_ap {r : Bool} (hT : T.ok) (hG : G.ok) (ha : res (el l) T = res (el l) G) (hS : S ∈ G.subs) (h1 : ∀ x, p x = true → x ∈ l ∧ x ∈ S.nm) (h2 : ∀ x, q x = true → x ∈ l ∧ x ∉ S.nm) :
    ap p false q r T = true ∧ ap p false q r G = true := by
  have no : ∀ x ∈ S.nm, q x = false := fun x hx => by
    cases e : q x with
    | false => rfl
    | true => exact ((h2 x e).2 hx).elim
  refine ⟨?_, ap_in hG hS (fun x _ e => (h1 x e).2) no⟩
  cases e : res (el l) T with
  | none => exact ap_no (mt_res_none e fun x z => el_true.mpr (h1 x z).1)
  | some t =>
    have okt := res_ok hT e
    have k : ap p false q r t = ap p false q r T := ap_res (fun x z => el_true.mpr (h1 x z).1) (fun x z => el_true.mpr (h2 x z).1) e
    rw [← k]
    cases e2 : res (el l) S with
    | none => exact ap_no (mt_false.mpr fun x hx => by
        cases e3 : p x with
        | false => rfl
        | true =>
          have := mt_false.mp (res_none.mp e2) x (h1 x e3).2
          rw [el_true.mpr (h1 x e3).1] at this; cases this)
    | some S' =>
      obtain ⟨t', t1, t2⟩ := sub_res hG hS e2
      rw [← ha, e] at t1
      cases t1
      exact ap_in okt t2 (fun x _ e3 => (res_mem e2 x).mpr ⟨(h1 x e3).2, el_true.mpr (h1 x e3).1⟩) fun x hx => no x ((res_mem e2 x).mp hx).1
def inS (S : Tr) (l : List Nat) : List Nat := l.filter fun x => decide (x ∈ S.nm)
def outS (S : Tr) (l : List Nat) : List Nat := l.filter fun x => decide (x ∉ S.nm)
theorem mem_inS {x : Nat} : x ∈ inS S l ↔ x ∈ l ∧ x ∈ S.nm := by simp [inS]
theorem mem_outS {x : Nat} : x ∈ outS S l ↔ x ∈ l ∧ x ∉ S.nm := by simp [outS]
theorem Fo.splitTop (h : Fo T G top o) (hT : T.ok) (hG : G.ok) (hS : S ∈ G.subs) (hx : ∃ x ∈ top, x ∈ S.nm) : Fo T G (outS S top) (inS S top :: o) := by
  have sp := fun r => split_ap (p := el (inS S top)) (q := el (outS S top)) (r := r) hT hG h.agT hS (fun x e => mem_inS.mp (el_true.mp e)) (fun x e => mem_outS.mp (el_true.mp e))
  have mi : ∀ x, el (inS S top) x = true → el top x = true := fun x e => el_true.mpr (mem_inS.mp (el_true.mp e)).1
  have mo : ∀ x, el (outS S top) x = true → el top x = true := fun x e => el_true.mpr (mem_outS.mp (el_true.mp e)).1
  refine ⟨h.same, fun x => ?_, fun l hl => ?_, fun l hl x hx hl' => ?_, ?_, res_sub hT hG h.agT mo, fun l hl => ?_, ⟨fun l hl => ?_, ?_⟩, ⟨fun l hl => ?_, ?_⟩⟩
  · rw [h.cov]
    constructor
    · rintro (k | ⟨l, hl, k⟩)
      · by_cases z : x ∈ S.nm
        · exact .inr ⟨_, List.mem_cons_self, mem_inS.mpr ⟨k, z⟩⟩
        · exact .inl (mem_outS.mpr ⟨k, z⟩)
      · exact .inr ⟨l, List.mem_cons_of_mem _ hl, k⟩
    · rintro (k | ⟨l, hl, k⟩)
      · exact .inl (mem_outS.mp k).1
      · rcases List.mem_cons.mp hl with e | hl
        · subst e; exact .inl (mem_inS.mp k).1
        · exact .inr ⟨l, hl, k⟩
  · rcases List.mem_cons.mp hl with e | hl
    · subst e
      obtain ⟨x, x1, x2⟩ := hx
      intro e
      have := mem_inS.mpr ⟨x1, x2⟩
      rw [e] at this; cases this
    · exact h.ne l hl
  · rcases List.mem_cons.mp hl with e | hl
    · subst e
      exact (mem_outS.mp hx).2 (mem_inS.mp hl').2
    · exact h.dj l hl x (mem_outS.mp hx).1 hl'
  · exact List.pairwise_cons.mpr ⟨fun l hl x hx => h.dj l hl x (mem_inS.mp hx).1, h.djs⟩
  · rcases List.mem_cons.mp hl with e | hl
    · subst e; exact res_sub hT hG h.agT mi
    · exact h.ag l hl
  · rcases List.mem_cons.mp hl with e | hl
    · subst e; rw [ap_comm]; exact (sp true).1
    · exact ap_mono mo (fun z => z) (fun _ z => z) (fun z => z) (h.apT.1 l hl)
  · exact List.pairwise_cons.mpr ⟨fun l hl => ap_mono mi (fun z => by cases z) (fun _ z => z) (fun z => z) (h.apT.1 l hl), h.apT.2⟩
  · rcases List.mem_cons.mp hl with e | hl
    · subst e; rw [ap_comm]; exact (sp true).2
    · exact ap_mono mo (fun z => z) (fun _ z => z) (fun z => z) (h.apG.1 l hl)
  · exact List.pairwise_cons.mpr ⟨fun l hl => ap_mono mi (fun z => by cases z) (fun _ z => z) (fun z => z) (h.apG.1 l hl), h.apG.2⟩
theorem Fo.splitOne (h : Fo T G top (l :: o)) (hT : T.ok) (hG : G.ok) (hS : S ∈ G.subs) (hx : ∃ x ∈ l, x ∈ S.nm) (hy : ∃ x ∈ l, x ∉ S.nm) : Fo T G top (inS S l :: outS S l :: o) := by
  have hl : l ∈ l :: o := List.mem_cons_self
  have sp := split_ap (p := el (inS S l)) (q := el (outS S l)) (r := false) hT hG (h.ag l hl) hS (fun x e => mem_inS.mp (el_true.mp e)) (fun x e => mem_outS.mp (el_true.mp e))
  have mi : ∀ x, el (inS S l) x = true → el l x = true := fun x e => el_true.mpr (mem_inS.mp (el_true.mp e)).1
  have mo : ∀ x, el (outS S l) x = true → el l x = true := fun x e => el_true.mpr (mem_outS.mp (el_true.mp e)).1
  have each : ∀ {P : List Nat → Prop}, P (inS S l) → P (outS S l) → (∀ k ∈ o, P k) → ∀ k ∈ inS S l :: outS S l :: o, P k := fun h1 h2 h3 k hk => by
    rcases List.mem_cons.mp hk with e | hk
    · subst e; exact h1
    · rcases List.mem_cons.mp hk with e | hk
      · subst e; exact h2
      · exact h3 k hk
  have old : ∀ {k}, k ∈ o → k ∈ l :: o := fun hk => List.mem_cons_of_mem _ hk
  have ap3 : ∀ {U : Tr}, Apart U top (l :: o) → ap (el (inS S l)) false (el (outS S l)) false U = true → Apart U top (inS S l :: outS S l :: o) := fun {U} a s =>
    ⟨each (ap_mono (fun _ z => z) (fun z => z) mi (fun z => z) (a.1 l hl)) (ap_mono (fun _ z => z) (fun z => z) mo (fun z => z) (a.1 l hl)) fun k hk => a.1 k (old hk),
     List.pairwise_cons.mpr ⟨fun k hk => by
        rcases List.mem_cons.mp hk with e | hk
        · subst e; exact s
        · exact ap_mono mi (fun z => z) (fun _ z => z) (fun z => z) (List.rel_of_pairwise_cons a.2 hk),
      List.pairwise_cons.mpr ⟨fun k hk => ap_mono mo (fun z => z) (fun _ z => z) (fun z => z) (List.rel_of_pairwise_cons a.2 hk), a.2.of_cons⟩⟩⟩
  refine ⟨h.same, fun x => ?_, each ?_ ?_ fun k hk => h.ne k (old hk), each (fun x x1 x2 => h.dj l hl x x1 (mem_inS.mp x2).1) (fun x x1 x2 => h.dj l hl x x1 (mem_outS.mp x2).1) fun k hk => h.dj k (old hk),
    List.pairwise_cons.mpr ⟨fun k hk x hx hk' => ?_, List.pairwise_cons.mpr ⟨fun k hk x hx hk' => ?_, h.djs.of_cons⟩⟩, h.agT, each (res_sub hT hG (h.ag l hl) mi) (res_sub hT hG (h.ag l hl) mo) fun k hk => h.ag k (old hk), ap3 h.apT sp.1, ap3 h.apG sp.2⟩
  · rw [h.cov]
    constructor
    · rintro (k | ⟨k, hk, kx⟩)
      · exact .inl k
      · rcases List.mem_cons.mp hk with e | hk
        · subst e
          by_cases z : x ∈ S.nm
          · exact .inr ⟨_, List.mem_cons_self, mem_inS.mpr ⟨kx, z⟩⟩
          · exact .inr ⟨_, List.mem_cons_of_mem _ List.mem_cons_self, mem_outS.mpr ⟨kx, z⟩⟩
        · exact .inr ⟨k, List.mem_cons_of_mem _ (List.mem_cons_of_mem _ hk), kx⟩
    · rintro (k | ⟨k, hk, kx⟩)
      · exact .inl k
      · rcases List.mem_cons.mp hk with e | hk
        · subst e; exact .inr ⟨l, hl, (mem_inS.mp kx).1⟩
        · rcases List.mem_cons.mp hk with e | hk
          · subst e; exact .inr ⟨l, hl, (mem_outS.mp kx).1⟩
          · exact .inr ⟨k, old hk, kx⟩
  · obtain ⟨x, x1, x2⟩ := hx
    intro e
    have := mem_inS.mpr ⟨x1, x2⟩
    rw [e] at this; cases this
  · obtain ⟨x, x1, x2⟩ := hy
    intro e
    have := mem_outS.mpr ⟨x1, x2⟩
    rw [e] at this; cases this
  · rcases List.mem_cons.mp hk with e | hk
    · subst e; exact (mem_outS.mp hk').2 (mem_inS.mp hx).2
    · exact List.rel_of_pairwise_cons h.djs hk x (mem_inS.mp hx).1 hk'
  · exact List.rel_of_pairwise_cons h.djs hk x (mem_outS.mp hx).1 hk'
/-- a forest none of whose lots lies on both sides of what is moved -/
theorem Fo.across {R P G' : Tr} (h : Fo T G top o) (hG : G.ok) (m : Mv S R P G G') (ht : ∀ x ∈ top, x ∉ S.nm) (hl : ∀ l ∈ o, (∀ x ∈ l, x ∈ S.nm) ∨ ∀ x ∈ l, x ∉ S.nm) : Fo T G' top o := by
  have hin : ∀ {l : List Nat}, (∀ x ∈ l, x ∈ S.nm) → res (el l) G' = res (el l) G := fun k => m.inn hG fun x e => k x (el_true.mp e)
  have hout : ∀ {l : List Nat}, (∀ x ∈ l, x ∉ S.nm) → res (el l) G' = res (el l) G := fun k => m.out hG (mt_false.mpr fun x hx => el_false.mpr fun z => k x z hx)
  have two : ∀ {l k : List Nat}, l ∈ o → k ∈ o → ap (el l) false (el k) false G = true → ap (el l) false (el k) false G' = true := fun {l k} h1 h2 a => by
    rcases hl l h1 with i | i
    · rcases hl k h2 with j | j
      · have e : res (fun x => decide (x ∈ S.nm)) G' = res (fun x => decide (x ∈ S.nm)) G := m.inn hG fun x e => of_decide_eq_true e
        have hs : res (fun x => decide (x ∈ S.nm)) G = some S := by
          rw [res_in hG m.sub fun x _ e => of_decide_eq_true e]
          exact res_all (m.okS hG) fun x hx => decide_eq_true hx
        have p1 : ∀ x, el l x = true → decide (x ∈ S.nm) = true := fun x e => decide_eq_true (i x (el_true.mp e))
        have p2 : ∀ x, el k x = true → decide (x ∈ S.nm) = true := fun x e => decide_eq_true (j x (el_true.mp e))
        have a1 : ap (el l) false (el k) false S = ap (el l) false (el k) false G := ap_res p1 p2 hs
        have a2 : ap (el l) false (el k) false S = ap (el l) false (el k) false G' := ap_res p1 p2 (e.trans hs)
        rw [← a2, a1]; exact a
      · exact ap_in (m.ok hG) m.put.there (fun x _ e => i x (el_true.mp e)) fun x hx => el_false.mpr fun z => j x z hx
    · rcases hl k h2 with j | j
      · rw [ap_comm]
        exact ap_in (m.ok hG) m.put.there (fun x _ e => j x (el_true.mp e)) fun x hx => el_false.mpr fun z => i x z hx
      · exact m.apart hG (fun x e => i x (el_true.mp e)) (fun x e => j x (el_true.mp e)) a
  refine ⟨fun x => (h.same x).trans (m.nm x).symm, h.cov, h.ne, h.dj, h.djs, ?_, fun l k => ?_, h.apT, ⟨fun l k => ?_, ?_⟩⟩
  · rw [hout ht]; exact h.agT
  · rcases hl l k with i | i
    · rw [hin i]; exact h.ag l k
    · rw [hout i]; exact h.ag l k
  · rcases hl l k with i | i
    · rw [ap_comm]
      exact ap_in (m.ok hG) m.put.there (fun x _ e => i x (el_true.mp e)) fun x hx => el_false.mpr fun z => ht x z hx
    · exact m.apart hG (fun x e => ht x (el_true.mp e)) (fun x e => i x (el_true.mp e)) (h.apG.1 l k)
  · exact List.Pairwise.imp_of_mem (fun {l k} h1 h2 a => two h1 h2 a) h.apG.2
/-- THE CUT: behind a move of the other tree a forest has at most one other more -/
theorem Fo.cut {R P G' : Tr} (h : Fo T G top o) (hT : T.ok) (hG : G.ok) (m : Mv S R P G G') : ∃ top' o', Fo T G' top' o' ∧ o'.length ≤ o.length + 1 := by
  have inG : ∀ {l : List Nat}, l ∈ o → ∀ x ∈ l, x ∈ G.nm := fun hl x hx => (h.same x).mp ((h.cov x).mpr (.inr ⟨_, hl, hx⟩))
  have side : ∀ {l : List Nat}, ¬ ((∃ x ∈ l, x ∈ S.nm) ∧ ∃ x ∈ l, x ∉ S.nm) → (∀ x ∈ l, x ∈ S.nm) ∨ ∀ x ∈ l, x ∉ S.nm := fun {l} hn => by
    by_cases z : ∃ x ∈ l, x ∈ S.nm
    · exact .inl fun x hx => Classical.byContradiction fun k => hn ⟨z, x, hx, k⟩
    · exact .inr fun x hx k => z ⟨x, hx, k⟩
  have way : ∀ {l : List Nat}, l ∈ o → (∃ x ∈ l, x ∈ S.nm) ∧ (∃ x ∈ l, x ∉ S.nm) → S ∈ wayT (el l) false G := fun {l} hl ⟨⟨x, x1, x2⟩, y, y1, y2⟩ =>
    wayT_open hG m.sub (mt_true.mpr ⟨x, x2, el_true.mpr x1⟩) (.inr ⟨y, inG hl y y1, y2, el_true.mpr y1⟩)
  by_cases ht : ∃ x ∈ top, x ∈ S.nm
  · refine ⟨_, _, (h.splitTop hT hG m.sub ht).across hG m (fun x hx => (mem_outS.mp hx).2) fun l hl => ?_, Nat.le_of_eq rfl⟩
    rcases List.mem_cons.mp hl with e | hl
    · subst e; exact .inl fun x hx => (mem_inS.mp hx).2
    · refine side fun k => ?_
      obtain ⟨x, x1, x2⟩ := ht
      exact (ap_iff hG).mp (h.apG.1 l hl) S (wayT_open hG m.sub (mt_true.mpr ⟨x, x2, el_true.mpr x1⟩) (.inl rfl)) (way hl k)
  · have ht' : ∀ x ∈ top, x ∉ S.nm := fun x hx k => ht ⟨x, hx, k⟩
    by_cases hl : ∃ l ∈ o, (∃ x ∈ l, x ∈ S.nm) ∧ ∃ x ∈ l, x ∉ S.nm
    · obtain ⟨l, l1, l2⟩ := hl
      obtain ⟨a, b, e⟩ := List.append_of_mem l1
      have pm : o.Perm (l :: (a ++ b)) := by rw [e]; exact List.perm_middle
      have h' := h.perm pm
      refine ⟨_, _, (h'.splitOne hT hG m.sub l2.1 l2.2).across hG m ht' fun k hk => ?_, by rw [pm.length_eq]; simp⟩
      rcases List.mem_cons.mp hk with e | hk
      · subst e; exact .inl fun x hx => (mem_inS.mp hx).2
      · rcases List.mem_cons.mp hk with e | hk
        · subst e; exact .inr fun x hx => (mem_outS.mp hx).2
        · refine side fun z => ?_
          have : k ∈ o := pm.mem_iff.mpr (List.mem_cons_of_mem _ hk)
          exact (ap_iff hG).mp (List.rel_of_pairwise_cons h'.apG.2 hk) S (way l1 l2) (way this z)
    · exact ⟨top, o, h.across hG m ht' fun l k => side fun z => hl ⟨l, k, z⟩, Nat.le_succ _⟩
end

/-! ### many moves -/
def Step (T T' : Tr) : Prop := ∃ S R P, Mv S R P T T'
inductive Reach : Nat → Tr → Tr → Prop
  | nil {T : Tr} : Reach 0 T T
  | snoc {n : Nat} {T U W : Tr} : Reach n T U → Step U W → Reach (n + 1) T W
theorem Step.ok {T U : Tr} (h : Step T U) (hT : T.ok) : U.ok := let ⟨_, _, _, m⟩ := h; m.ok hT
theorem Step.nm {T U : Tr} (h : Step T U) (x : Nat) : x ∈ U.nm ↔ x ∈ T.nm := let ⟨_, _, _, m⟩ := h; m.nm x
theorem Step.back {T U : Tr} (h : Step T U) (hT : T.ok) : Step U T := by
  obtain ⟨_, _, _, m⟩ := h
  obtain ⟨P', m'⟩ := m.back hT
  exact ⟨_, _, _, m'⟩
theorem Reach.ok {n : Nat} {T U : Tr} (h : Reach n T U) : T.ok → U.ok := by
  induction h with
  | nil => exact id
  | snoc _ s ih => exact fun k => s.ok (ih k)
theorem Reach.nm {n : Nat} {T U : Tr} (h : Reach n T U) (x : Nat) : x ∈ U.nm ↔ x ∈ T.nm := by
  induction h with
  | nil => exact Iff.rfl
  | snoc _ s ih => exact (s.nm x).trans ih
theorem Reach.one {T U : Tr} (h : Step T U) : Reach 1 T U := .snoc .nil h
theorem Reach.trans {n m : Nat} {T U W : Tr} (h : Reach n T U) (g : Reach m U W) : Reach (n + m) T W := by
  induction g with
  | nil => exact h
  | snoc _ s ih => exact .snoc (ih h) s
theorem Reach.back {n : Nat} {T U : Tr} (h : Reach n T U) : T.ok → Reach n U T := by
  induction h with
  | nil => exact fun _ => .nil
  | @snoc n T U W g s ih =>
    intro hT
    have := (Reach.one (s.back (g.ok hT))).trans (ih hT)
    rw [Nat.add_comm] at this
    exact this
theorem Reach.fo {n : Nat} {T U : Tr} (h : Reach n T U) : T.ok → ∃ top o, Fo T U top o ∧ o.length ≤ n := by
  induction h with
  | @nil T => exact fun _ => ⟨T.nm, [], fo_self fun _ => Iff.rfl, Nat.le_refl _⟩
  | @snoc n T U W g s ih =>
    intro hT
    obtain ⟨top, o, f, h1⟩ := ih hT
    obtain ⟨S, R, P, m⟩ := s
    obtain ⟨top', o', f', h2⟩ := f.cut hT (g.ok hT) m
    exact ⟨top', o', f', by omega⟩

/-! ### the first node that is met -/
/-- the first node of a list that stands in the way of some lot -/
theorem first_met {α : Type} (p : α → Prop) [DecidablePred p] : ∀ l : List α, (∀ x ∈ l, ¬ p x) ∨ ∃ pre N post, l = pre ++ N :: post ∧ (∀ x ∈ pre, ¬ p x) ∧ p N
  | [] => .inl fun x hx => by cases hx
  | x :: l => by
    by_cases h : p x
    · exact .inr ⟨[], x, l, rfl, fun x hx => (by cases hx), h⟩
    · rcases first_met p l with k | ⟨pre, N, post, e, h1, h2⟩
      · refine .inl fun y hy => ?_
        rcases List.mem_cons.mp hy with e | hy
        · subst e; exact h
        · exact k y hy
      · refine .inr ⟨x :: pre, N, post, by rw [e]; rfl, fun y hy => ?_, h2⟩
        rcases List.mem_cons.mp hy with e | hy
        · subst e; exact h
        · exact h1 y hy
theorem mv_ex {T S P : Tr} {R : Tr} (hS : S ∈ T.subs) (hR : res (fun x => decide (x ∉ S.nm)) T = some R) (hP : P ∈ R.subs) : ∃ T', Mv S R P T T' := by
  obtain ⟨T', h⟩ := put_ex S hP
  exact ⟨T', hS, hR, h⟩
/-- by a forest one tree comes to the other one, by no more moves than it has others -/
theorem Fo.reach {G : Tr} (hG : G.ok) : ∀ {n : Nat} {T : Tr} {top : List Nat} {o : List (List Nat)}, o.length = n → T.ok → Fo T G top o → ∃ k, k ≤ n ∧ Reach k T G
  | 0, T, top, o, hn, hT, h => by
    have e : o = [] := List.length_eq_zero_iff.mp hn
    subst e
    have all : ∀ x ∈ T.nm, el top x = true := fun x hx => by
      rcases (h.cov x).mp hx with k | ⟨l, hl, _⟩
      · exact el_true.mpr k
      · cases hl
    have e1 := h.agT
    rw [res_all hT all, res_all hG fun x hx => all x ((h.same x).mpr hx)] at e1
    cases e1
    exact ⟨0, Nat.le_refl _, .nil⟩
  | n + 1, T, top, o, hn, hT, h => by
    have hne : o ≠ [] := fun e => by subst e; cases hn
    obtain ⟨L, hL, S, hsub, hS⟩ := h.free hT hne
    obtain ⟨a, b, e⟩ := List.append_of_mem hL
    have pm : o.Perm (L :: (a ++ b)) := by rw [e]; exact List.perm_middle
    have h := h.perm pm
    have hlen : (a ++ b).length = n := by have := pm.length_eq; simp only [List.length_cons] at this; omega
    generalize a ++ b = o' at h hlen
    have moved : ∀ {T' : Tr} {top' : List Nat} {o'' : List (List Nat)}, Step T T' → Fo T' G top' o'' → o''.length = n → ∃ k, k ≤ n + 1 ∧ Reach k T G := fun {T' top' o''} s f e => by
      obtain ⟨k, k1, k2⟩ := Fo.reach hG e (s.ok hT) f
      have := (Reach.one s).trans k2
      exact ⟨1 + k, by omega, this⟩
    have rest : S ≠ T → ∃ R, res (fun x => decide (x ∉ S.nm)) T = some R := fun hn => let ⟨R, _, h, _⟩ := back_ex hT hsub hn; ⟨R, h⟩
    rcases first_met (fun N => (∃ l ∈ o', N ∈ wayT (el l) false G) ∨ N ∈ wayT (el top) true G) (anc (el L) G) with k | ⟨pre, N, post, ha, hf, hN⟩
    · obtain ⟨_, h1, h2⟩ := h.alone hT hG hS hsub (fun N hN l hl z => k N hN (.inl ⟨l, hl, z⟩)) (fun N hN z => k N hN (.inr z))
      by_cases z : S = T
      · have f := h1 z
        have : o' = [] := by
          cases o' with
          | nil => rfl
          | cons l r =>
            exfalso
            obtain ⟨x, xs, e⟩ := List.exists_cons_of_ne_nil (h.ne l (List.mem_cons_of_mem _ List.mem_cons_self))
            have hx : x ∈ l := by rw [e]; simp
            refine f.dj l List.mem_cons_self x ((hS x).mp ?_) hx
            rw [z]
            exact (h.cov x).mpr (.inr ⟨l, List.mem_cons_of_mem _ List.mem_cons_self, hx⟩)
        subst this
        obtain ⟨k, k1, k2⟩ := Fo.reach (n := 0) hG rfl hT f
        exact ⟨k, by omega, k2⟩
      · obtain ⟨R, hR⟩ := rest z
        obtain ⟨T', m⟩ := mv_ex hsub hR (self_sub R)
        exact moved ⟨_, _, _, m⟩ (h2 R T' m) hlen
    · have hf1 : ∀ N' ∈ pre, ∀ l ∈ o', N' ∈ wayT (el l) false G → False := fun N' n1 l hl z => hf N' n1 (.inl ⟨l, hl, z⟩)
      have hf2 : ∀ N' ∈ pre, N' ∈ wayT (el top) true G → False := fun N' n1 z => hf N' n1 (.inr z)
      have hz : ∀ {l : List Nat} {om : Bool}, N ∈ wayT (el l) om G → (∀ x ∈ l, x ∉ L) → S ≠ T := fun {l om} w d e => by
        obtain ⟨x, x1, x2⟩ := mt_true.mp (show mt (el l) N = true from by
          have : ∀ {t : Tr} {o : Bool}, N ∈ wayT (el l) o t → mt (el l) N = true := fun {t} => by
            induction t with
            | lf i =>
              intro o h
              unfold wayT at h
              split at h
              · simp at h; subst h; rw [mt_lf]; assumption
              · cases h
            | fk a b iha ihb =>
              intro o h
              rw [wayT_fk] at h
              rcases List.mem_append.mp h with h | h
              · split at h
                · rename_i hi
                  simp at h; subst h; exact inw_mt hi
                · cases h
              · rcases List.mem_append.mp h with h | h
                · exact iha h
                · exact ihb h
          exact this w)
        have hx : x ∈ T.nm := (h.same x).mpr (sub_nm (wayT_sub w) x x1)
        rw [← e] at hx
        exact d x (el_true.mp x2) ((hS x).mp hx)
      rcases hN with ⟨mate, hm, w⟩ | w
      · obtain ⟨a, b, e⟩ := List.append_of_mem hm
        have pm : o'.Perm (mate :: (a ++ b)) := by rw [e]; exact List.perm_middle
        have h' := h.perm (pm.cons L)
        obtain ⟨R, hR⟩ := rest (hz w (h'.tail_mem List.mem_cons_self).1)
        obtain ⟨T', m⟩ := mv_ex hsub hR (hd_sub (p := el (mate.filter fun x => decide (x ∈ N.nm))))
        refine moved ⟨_, _, _, m⟩ (h'.joinOne (M := L ++ mate) hT hG hS hsub ha (fun N' n1 l hl => hf1 N' n1 l (pm.mem_iff.mpr hl)) hf2 w (fun x => by simp [and_comm]) (fun x => by simp) m rfl) ?_
        rw [← hlen, pm.length_eq]; rfl
      · obtain ⟨R, hR⟩ := rest (hz w fun x hx => h.dj L List.mem_cons_self x hx)
        obtain ⟨T', m⟩ := mv_ex hsub hR (hd_sub (p := el (top.filter fun x => decide (x ∈ N.nm))))
        exact moved ⟨_, _, _, m⟩ (h.joinTop (M := L ++ top) hT hG hS hsub ha hf1 hf2 w (fun x => by simp [and_comm]) (fun x => by simp) m rfl) hlen
end Jt
end

section
set_option Elab.async false
set_option linter.all false
namespace Jt
open Tr
/-! ### the search for a forest with few others -/
instance (T : Tr) (top : List Nat) (o : List (List Nat)) : Decidable (Apart T top o) := by unfold Apart; exact inferInstance
def Share (T G : Tr) (top : List Nat) (o : List (List Nat)) : Prop := (∀ l ∈ top :: o, l ≠ [] → res (el l) T = res (el l) G) ∧ Apart T top o ∧ Apart G top o
instance (T G : Tr) (top : List Nat) (o : List (List Nat)) : Decidable (Share T G top o) := by unfold Share; exact inferInstance
abbrev Fst : Type := List Nat × List (List Nat)
def longer (top : List Nat) (o : List (List Nat)) (n most : Nat) : List Fst :=
  (top ++ [n], o) :: ((List.range o.length).map (fun k => (top, o.set k (o.getD k [] ++ [n]))) ++ if o.length < most then [(top, o ++ [[n]])] else [])
def looked (T G : Tr) (most : Nat) : List Nat → List Nat → List (List Nat) → Option Fst
  | [], top, o => some (top, o)
  | n :: ns, top, o => (longer top o n most).findSome? fun st => if Share T G st.1 st.2 then looked T G most ns st.1 st.2 else none

/-- lots seen so far, beside the whole lots -/
inductive Al (ns : List Nat) : List (List Nat) → List (List Nat) → Prop
  | nil : Al ns [] []
  | cons {a b : List Nat} {r r' : List (List Nat)} : (∀ x, x ∈ a ↔ x ∈ b ∧ x ∉ ns) → Al ns r r' → Al ns (a :: r) (b :: r')
section
variable {T G : Tr} {most n : Nat} {ns top tp : List Nat} {o o1 o2 : List (List Nat)}
theorem Al.length (h : Al ns o o1) : o.length = o1.length := by
  induction h with
  | nil => rfl
  | cons _ _ ih => simp [ih]
theorem Al.mem (h : Al ns o o1) : ∀ a ∈ o, ∃ b ∈ o1, ∀ x ∈ a, x ∈ b := by
  induction h with
  | nil => intro a ha; cases ha
  | @cons a b r r' h1 _ ih =>
    intro c hc
    rcases List.mem_cons.mp hc with e | hc
    · subst e; exact ⟨b, List.mem_cons_self, fun x hx => ((h1 x).mp hx).1⟩
    · obtain ⟨d, d1, d2⟩ := ih c hc
      exact ⟨d, List.mem_cons_of_mem _ d1, d2⟩
theorem sub_el {a b : List Nat} (h : ∀ x ∈ a, x ∈ b) : ∀ x, el a x = true → el b x = true := fun x e => el_true.mpr (h x (el_true.mp e))
theorem Al.apart {U : Tr} (h : Al ns o o1) : o1.Pairwise (fun l m => ap (el l) false (el m) false U = true) → o.Pairwise fun l m => ap (el l) false (el m) false U = true := by
  induction h with
  | nil => exact id
  | @cons a b r r' h1 h2 ih =>
    intro p
    refine List.pairwise_cons.mpr ⟨fun c hc => ?_, ih p.of_cons⟩
    obtain ⟨d, d1, d2⟩ := h2.mem c hc
    exact ap_mono (sub_el fun x hx => ((h1 x).mp hx).1) (fun z => z) (sub_el d2) (fun z => z) (List.rel_of_pairwise_cons p d1)
theorem Al.more (h : Al (n :: ns) o o1) (hn : ∀ l ∈ o1, n ∉ l) : Al ns o o1 := by
  induction h with
  | nil => exact .nil
  | @cons a b r r' h1 _ ih =>
    refine .cons (fun x => ?_) (ih fun l hl => hn l (List.mem_cons_of_mem _ hl))
    rw [h1, List.mem_cons]
    have := hn b List.mem_cons_self
    constructor
    · exact fun k => ⟨k.1, fun z => k.2 (.inr z)⟩
    · rintro ⟨k1, k2⟩
      refine ⟨k1, ?_⟩
      rintro (e | z)
      · subst e; exact this k1
      · exact k2 z
theorem Al.put (h : Al (n :: ns) o o1) (hnn : n ∉ ns) : o1.Pairwise (fun l m => ∀ x ∈ l, x ∉ m) → ∀ l ∈ o1, n ∈ l → ∃ k, k < o.length ∧ Al ns (o.set k (o.getD k [] ++ [n])) o1 := by
  induction h with
  | nil => intro _ l hl; cases hl
  | @cons a b r r' h1 h2 ih =>
    intro p l hl hx
    by_cases e : n ∈ b
    · refine ⟨0, by simp, ?_⟩
      show Al ns ((a ++ [n]) :: r) (b :: r')
      refine .cons (fun x => ?_) (h2.more fun k hk hx' => List.rel_of_pairwise_cons p hk n e hx')
      rw [List.mem_append, h1, List.mem_cons, List.mem_singleton]
      constructor
      · rintro (k | k)
        · exact ⟨k.1, fun z => k.2 (.inr z)⟩
        · subst k; exact ⟨e, hnn⟩
      · rintro ⟨k1, k2⟩
        by_cases z : x = n
        · exact .inr z
        · exact .inl ⟨k1, fun w => w.elim z k2⟩
    · rcases List.mem_cons.mp hl with e' | hl
      · subst e'; exact (e hx).elim
      · obtain ⟨k, k1, k2⟩ := ih p.of_cons l hl hx
        refine ⟨k + 1, by simp; exact k1, ?_⟩
        show Al ns (a :: r.set k (r.getD k [] ++ [n])) (b :: r')
        refine .cons (fun x => ?_) k2
        rw [h1, List.mem_cons]
        constructor
        · exact fun k => ⟨k.1, fun z => k.2 (.inr z)⟩
        · rintro ⟨k1, k2⟩
          refine ⟨k1, ?_⟩
          rintro (z | z)
          · subst z; exact e k1
          · exact k2 z
theorem Al.snoc {a b : List Nat} (h : Al ns o o1) (h1 : ∀ x, x ∈ a ↔ x ∈ b ∧ x ∉ ns) : Al ns (o ++ [a]) (o1 ++ [b]) := by
  induction h with
  | nil => exact .cons h1 .nil
  | cons k _ ih => exact .cons k ih
/-- the lots seen so far are of a forest with so many others at most -/
def Good (T G : Tr) (most : Nat) (ns top : List Nat) (o : List (List Nat)) : Prop :=
  ∃ tp o1 o2, Fo T G tp (o1 ++ o2) ∧ (o1 ++ o2).length ≤ most ∧ (∀ x ∈ ns, x ∈ T.nm) ∧ (∀ x, x ∈ top ↔ x ∈ tp ∧ x ∉ ns) ∧ Al ns o o1 ∧ ∀ l ∈ o2, ∀ x ∈ l, x ∈ ns
theorem Good.share (h : Good T G most ns top o) (hT : T.ok) (hG : G.ok) : Share T G top o := by
  obtain ⟨tp, o1, o2, f, _, _, ht, ha, _⟩ := h
  have up : ∀ l ∈ o, ∃ m ∈ o1 ++ o2, ∀ x ∈ l, x ∈ m := fun l hl => let ⟨m, m1, m2⟩ := ha.mem l hl; ⟨m, List.mem_append_left _ m1, m2⟩
  have tt : ∀ x ∈ top, x ∈ tp := fun x hx => ((ht x).mp hx).1
  have apart : ∀ {U : Tr}, Apart U tp (o1 ++ o2) → Apart U top o := fun {U} a =>
    ⟨fun l hl => let ⟨m, m1, m2⟩ := up l hl; ap_mono (sub_el tt) (fun z => z) (sub_el m2) (fun z => z) (a.1 m m1), ha.apart (List.pairwise_append.mp a.2).1⟩
  refine ⟨fun l hl _ => ?_, apart f.apT, apart f.apG⟩
  rcases List.mem_cons.mp hl with e | hl
  · subst e; exact res_sub hT hG f.agT (sub_el tt)
  · obtain ⟨m, m1, m2⟩ := up l hl
    exact res_sub hT hG (f.ag m m1) (sub_el m2)
theorem dj_of_pw {l m : List Nat} {os : List (List Nat)} (h : os.Pairwise fun l m => ∀ x ∈ l, x ∉ m) (hl : l ∈ os) (hm : m ∈ os) {x : Nat} (x1 : x ∈ l) (x2 : x ∈ m) : l = m := by
  by_cases e : l = m
  · exact e
  · exact (pw_mem (R := fun l m : List Nat => ∀ x ∈ l, x ∉ m) (fun a b k x hb ha => k x ha hb) h hl hm e x x1 x2).elim
/-- some longer one is of the forest too -/
theorem Good.longer (h : Good T G most (n :: ns) top o) (hn : n ∉ ns) : ∃ st ∈ Jt.longer top o n most, Good T G most ns st.1 st.2 := by
  obtain ⟨tp, o1, o2, f, hlen, hns, ht, ha, h2⟩ := h
  have hns' : ∀ x ∈ ns, x ∈ T.nm := fun x hx => hns x (List.mem_cons_of_mem _ hx)
  have topSame : n ∉ tp → ∀ x, x ∈ top ↔ x ∈ tp ∧ x ∉ ns := fun hq x => by
    rw [ht, List.mem_cons]
    constructor
    · exact fun k => ⟨k.1, fun z => k.2 (.inr z)⟩
    · rintro ⟨k1, k2⟩
      refine ⟨k1, ?_⟩
      rintro (e | z)
      · subst e; exact hq k1
      · exact k2 z
  have o2less : (∀ l ∈ o2, n ∉ l) → ∀ l ∈ o2, ∀ x ∈ l, x ∈ ns := fun hq l hl x hx => by
    rcases List.mem_cons.mp (h2 l hl x hx) with e | k
    · subst e; exact (hq l hl hx).elim
    · exact k
  rcases (f.cov n).mp (hns n List.mem_cons_self) with k | ⟨l, hl, k⟩
  · have no : ∀ l ∈ o1 ++ o2, n ∉ l := fun l hl => f.dj l hl n k
    refine ⟨_, List.mem_cons_self, tp, o1, o2, f, hlen, hns', fun x => ?_, ha.more fun l hl => no l (List.mem_append_left _ hl), o2less fun l hl => no l (List.mem_append_right _ hl)⟩
    show x ∈ top ++ [n] ↔ _
    rw [List.mem_append, ht, List.mem_cons, List.mem_singleton]
    constructor
    · rintro (z | z)
      · exact ⟨z.1, fun w => z.2 (.inr w)⟩
      · subst z; exact ⟨k, hn⟩
    · rintro ⟨z1, z2⟩
      by_cases e : x = n
      · exact .inr e
      · exact .inl ⟨z1, fun w => w.elim e z2⟩
  · have ntp : n ∉ tp := fun z => f.dj l hl n z k
    have only : ∀ m ∈ o1 ++ o2, n ∈ m → m = l := fun m hm z => dj_of_pw f.djs hm hl z k
    rcases List.mem_append.mp hl with hl1 | hl2
    · obtain ⟨i, i1, i2⟩ := ha.put hn (List.pairwise_append.mp f.djs).1 l hl1 k
      refine ⟨(top, o.set i (o.getD i [] ++ [n])), List.mem_cons_of_mem _ (List.mem_append_left _ (List.mem_map.mpr ⟨i, List.mem_range.mpr i1, rfl⟩)), tp, o1, o2, f, hlen, hns', topSame ntp, i2, o2less fun m hm z => ?_⟩
      have := (List.pairwise_append.mp f.djs).2.2 l hl1 m hm n k
      exact this z
    · obtain ⟨a, b, e⟩ := List.append_of_mem hl2
      have pm : (o1 ++ o2).Perm ((o1 ++ [l]) ++ (a ++ b)) := by
        rw [e, List.append_assoc]
        exact List.Perm.append_left o1 List.perm_middle
      have f' := f.perm pm
      have hlen' : ((o1 ++ [l]) ++ (a ++ b)).length ≤ most := by rw [← pm.length_eq]; exact hlen
      have no1 : ∀ m ∈ o1, n ∉ m := fun m hm z => (List.pairwise_append.mp f.djs).2.2 m hm l hl2 n z k
      have dj2 := (List.pairwise_append.mp f'.djs).2.2
      have lt : o.length < most := by
        rw [ha.length]
        simp only [List.length_append, List.length_cons, List.length_nil] at hlen'
        omega
      refine ⟨(top, o ++ [[n]]), List.mem_cons_of_mem _ (List.mem_append_right _ (by rw [if_pos lt]; simp)), tp, o1 ++ [l], a ++ b, f', hlen', hns', topSame ntp, (ha.more no1).snoc fun x => ?_, fun m hm x hx => ?_⟩
      · rw [List.mem_singleton]
        constructor
        · intro z; subst z; exact ⟨k, hn⟩
        · rintro ⟨z1, z2⟩
          rcases List.mem_cons.mp (h2 l hl2 x z1) with w | w
          · exact w
          · exact (z2 w).elim
      · have hm2 : m ∈ o2 := by
          rw [e]
          rcases List.mem_append.mp hm with z | z
          · exact List.mem_append_left _ z
          · exact List.mem_append_right _ (List.mem_cons_of_mem _ z)
        rcases List.mem_cons.mp (h2 m hm2 x hx) with z | z
        · subst z
          exact (dj2 l (by simp) m hm x k hx).elim
        · exact z
theorem looked_ne (hT : T.ok) (hG : G.ok) : ∀ {ns top : List Nat} {o : List (List Nat)}, ns.Nodup → Good T G most ns top o → looked T G most ns top o ≠ none
  | [], top, o, _, _ => by simp [looked]
  | n :: ns, top, o, hd, h => by
    rw [List.nodup_cons] at hd
    obtain ⟨st, h1, h2⟩ := h.longer hd.1
    intro e
    have := List.findSome?_eq_none_iff.mp e st h1
    simp only [h2.share hT hG, if_true] at this
    exact looked_ne hT hG hd.2 h2 this
/-- where there is a forest with so many others at most, one is found -/
theorem looked_finds (hT : T.ok) (hG : G.ok) {names : List Nat} (hn : names.Nodup) (hm : ∀ x, x ∈ names ↔ x ∈ T.nm) (f : Fo T G tp o) (hl : o.length ≤ most) : looked T G most names [] [] ≠ none :=
  looked_ne hT hG hn ⟨tp, [], o, f, hl, fun x hx => (hm x).mp hx, fun x => ⟨fun z => (by cases z), fun z => (z.2 ((hm x).mpr ((f.cov x).mpr (.inl z.1)))).elim⟩, .nil, fun l h x hx => (hm x).mpr ((f.cov x).mpr (.inr ⟨l, h, hx⟩))⟩

/-- what is true of lots as they are looked for -/
structure SInv (T : Tr) (most : Nat) (ns top : List Nat) (o : List (List Nat)) : Prop where
  cov : ∀ x, (x ∈ top ∨ ∃ l ∈ o, x ∈ l) ↔ x ∈ T.nm ∧ x ∉ ns
  ne : ∀ l ∈ o, l ≠ []
  dj : ∀ l ∈ o, ∀ x ∈ top, x ∉ l
  djs : o.Pairwise fun l m => ∀ x ∈ l, x ∉ m
  srt : top.Pairwise (· < ·) ∧ ∀ l ∈ o, l.Pairwise (· < ·)
  few : o.length ≤ most
theorem SInv.lt_new (h : SInv T most (n :: ns) top o) (hs : ∀ x ∈ T.nm, x ∉ n :: ns → x < n) : (∀ x ∈ top, x < n) ∧ ∀ l ∈ o, ∀ x ∈ l, x < n :=
  ⟨fun x hx => let k := (h.cov x).mp (.inl hx); hs x k.1 k.2, fun l hl x hx => let k := (h.cov x).mp (.inr ⟨l, hl, hx⟩); hs x k.1 k.2⟩
theorem srt_snoc {l : List Nat} (h : l.Pairwise (· < ·)) (hx : ∀ x ∈ l, x < n) : (l ++ [n]).Pairwise (· < ·) :=
  List.pairwise_append.mpr ⟨h, List.pairwise_singleton _ _, fun a ha b hb => by rw [List.mem_singleton] at hb; subst hb; exact hx a ha⟩
theorem SInv.longer (h : SInv T most (n :: ns) top o) (hn : n ∈ T.nm) (hnn : n ∉ ns) (hs : ∀ x ∈ T.nm, x ∉ n :: ns → x < n) : ∀ st ∈ Jt.longer top o n most, SInv T most ns st.1 st.2 := by
  intro st hst
  obtain ⟨l1, l2⟩ := h.lt_new hs
  have ntop : n ∉ top := fun z => Nat.lt_irrefl _ (l1 n z)
  have no : ∀ l ∈ o, n ∉ l := fun l hl z => Nat.lt_irrefl _ (l2 l hl n z)
  have tos : ∀ {x : Nat}, x ∈ T.nm ∧ x ∉ n :: ns → x ∈ T.nm ∧ x ∉ ns := fun k => ⟨k.1, fun z => k.2 (List.mem_cons_of_mem _ z)⟩
  have frm : ∀ {x : Nat}, x ∈ T.nm ∧ x ∉ ns → x ≠ n → x ∈ T.nm ∧ x ∉ n :: ns := fun k e => ⟨k.1, fun z => (List.mem_cons.mp z).elim e k.2⟩
  rcases List.mem_cons.mp hst with e | hst
  · subst e
    refine ⟨fun x => ?_, h.ne, fun l hl x hx hx' => ?_, h.djs, ⟨srt_snoc h.srt.1 l1, h.srt.2⟩, h.few⟩
    · show (x ∈ top ++ [n] ∨ _) ↔ _
      rw [List.mem_append, List.mem_singleton]
      constructor
      · rintro ((k | k) | k)
        · exact tos ((h.cov x).mp (.inl k))
        · subst k; exact ⟨hn, hnn⟩
        · exact tos ((h.cov x).mp (.inr k))
      · intro k
        by_cases e : x = n
        · exact .inl (.inr e)
        · rcases (h.cov x).mpr (frm k e) with z | z
          · exact .inl (.inl z)
          · exact .inr z
    · rcases List.mem_append.mp hx with k | k
      · exact h.dj l hl x k hx'
      · rw [List.mem_singleton] at k; subst k; exact no l hl hx'
  · rcases List.mem_append.mp hst with hst | hst
    · obtain ⟨k, k1, rfl⟩ := List.mem_map.mp hst
      rw [List.mem_range] at k1
      have eg : o.getD k [] = o[k] := by rw [List.getD_eq_getElem?_getD, List.getElem?_eq_getElem k1]; rfl
      have mem : ∀ {l : List Nat}, l ∈ o.set k (o.getD k [] ++ [n]) → l ∈ o ∨ l = o[k] ++ [n] := fun {l} hl => by
        rcases List.mem_or_eq_of_mem_set hl with z | z
        · exact .inl z
        · rw [eg] at z; exact .inr z
      have hk : o[k] ∈ o := List.getElem_mem k1
      refine ⟨fun x => ?_, fun l hl => ?_, fun l hl x hx hx' => ?_, ?_, ⟨h.srt.1, fun l hl => ?_⟩, by show (o.set k _).length ≤ most; rw [List.length_set]; exact h.few⟩
      · show (x ∈ top ∨ ∃ l ∈ o.set k (o.getD k [] ++ [n]), x ∈ l) ↔ _
        constructor
        · rintro (z | ⟨l, hl, z⟩)
          · exact tos ((h.cov x).mp (.inl z))
          · rcases mem hl with w | w
            · exact tos ((h.cov x).mp (.inr ⟨l, w, z⟩))
            · subst w
              rcases List.mem_append.mp z with z | z
              · exact tos ((h.cov x).mp (.inr ⟨_, hk, z⟩))
              · rw [List.mem_singleton] at z; subst z; exact ⟨hn, hnn⟩
        · intro z
          have inNew : ∀ {x}, x ∈ o[k] ++ [n] → ∃ l ∈ o.set k (o.getD k [] ++ [n]), x ∈ l := fun {x} w => by
            refine ⟨o[k] ++ [n], ?_, w⟩
            rw [eg]
            exact List.mem_set k1 _
          by_cases e : x = n
          · exact .inr (inNew (List.mem_append_right _ (by rw [e]; simp)))
          · rcases (h.cov x).mpr (frm z e) with w | ⟨l, hl, w⟩
            · exact .inl w
            · obtain ⟨i, i1, i2⟩ := List.getElem_of_mem hl
              by_cases e2 : i = k
              · subst e2
                exact .inr (inNew (List.mem_append_left _ (by rw [i2]; exact w)))
              · refine .inr ⟨l, ?_, w⟩
                have : (o.set k (o.getD k [] ++ [n]))[i]'(by rw [List.length_set]; exact i1) = l := by
                  rw [List.getElem_set_ne (fun z => e2 z.symm)]; exact i2
                rw [← this]; exact List.getElem_mem _
      · rcases mem hl with w | w
        · exact h.ne l w
        · subst w; simp
      · rcases mem hl with w | w
        · exact h.dj l w x hx hx'
        · subst w
          rcases List.mem_append.mp hx' with z | z
          · exact h.dj _ hk x hx z
          · rw [List.mem_singleton] at z; subst z; exact ntop hx
      · rw [List.pairwise_iff_getElem]
        intro i j hi hj hij x hx hx'
        have li : i < o.length := by rw [List.length_set] at hi; exact hi
        have lj : j < o.length := by rw [List.length_set] at hj; exact hj
        have pw := List.pairwise_iff_getElem.mp h.djs
        rw [List.getElem_set] at hx hx'
        have g1 : x ∈ (if k = i then o[k] ++ [n] else o[i]'li) := by
          by_cases z : k = i
          · rw [if_pos z] at hx ⊢; rw [← eg]; exact hx
          · rw [if_neg z] at hx ⊢; exact hx
        have g2 : x ∈ (if k = j then o[k] ++ [n] else o[j]'lj) := by
          by_cases z : k = j
          · rw [if_pos z] at hx' ⊢; rw [← eg]; exact hx'
          · rw [if_neg z] at hx' ⊢; exact hx'
        clear hx hx'
        by_cases a : k = i
        · have b : k ≠ j := by omega
          rw [if_pos a] at g1
          rw [if_neg b] at g2
          rcases List.mem_append.mp g1 with z | z
          · exact pw k j k1 lj (by omega) x z g2
          · rw [List.mem_singleton] at z; subst z; exact no _ (List.getElem_mem lj) g2
        · rw [if_neg a] at g1
          by_cases b : k = j
          · rw [if_pos b] at g2
            rcases List.mem_append.mp g2 with z | z
            · exact pw i k li k1 (by omega) x g1 z
            · rw [List.mem_singleton] at z; subst z; exact no _ (List.getElem_mem li) g1
          · rw [if_neg b] at g2
            exact pw i j li lj hij x g1 g2
      · rcases mem hl with w | w
        · exact h.srt.2 l w
        · subst w; exact srt_snoc (h.srt.2 _ hk) (l2 _ hk)
    · by_cases lt : o.length < most
      · rw [if_pos lt, List.mem_singleton] at hst
        subst hst
        refine ⟨fun x => ?_, fun l hl => ?_, fun l hl x hx hx' => ?_, ?_, ⟨h.srt.1, fun l hl => ?_⟩, ?_⟩
        · show (x ∈ top ∨ ∃ l ∈ o ++ [[n]], x ∈ l) ↔ _
          constructor
          · rintro (z | ⟨l, hl, z⟩)
            · exact tos ((h.cov x).mp (.inl z))
            · rcases List.mem_append.mp hl with w | w
              · exact tos ((h.cov x).mp (.inr ⟨l, w, z⟩))
              · rw [List.mem_singleton] at w; subst w; rw [List.mem_singleton] at z; subst z; exact ⟨hn, hnn⟩
          · intro z
            by_cases e : x = n
            · exact .inr ⟨[n], by simp, by rw [e]; simp⟩
            · rcases (h.cov x).mpr (frm z e) with w | ⟨l, hl, w⟩
              · exact .inl w
              · exact .inr ⟨l, List.mem_append_left _ hl, w⟩
        · rcases List.mem_append.mp hl with w | w
          · exact h.ne l w
          · rw [List.mem_singleton] at w; subst w; simp
        · rcases List.mem_append.mp hl with w | w
          · exact h.dj l w x hx hx'
          · rw [List.mem_singleton] at w; subst w; rw [List.mem_singleton] at hx'; subst hx'; exact ntop hx
        · refine List.pairwise_append.mpr ⟨h.djs, List.pairwise_singleton _ _, fun a ha b hb x hx hx' => ?_⟩
          rw [List.mem_singleton] at hb; subst hb; rw [List.mem_singleton] at hx'; subst hx'; exact no a ha hx
        · rcases List.mem_append.mp hl with w | w
          · exact h.srt.2 l w
          · rw [List.mem_singleton] at w; subst w; exact List.pairwise_singleton _ _
        · show (o ++ [[n]]).length ≤ most
          rw [List.length_append]; exact lt
      · rw [if_neg lt] at hst; cases hst
theorem looked_sound : ∀ {ns top : List Nat} {o : List (List Nat)} {r : Fst}, ns.Pairwise (· < ·) → (∀ x ∈ ns, x ∈ T.nm) → (∀ x ∈ T.nm, x ∉ ns → ∀ y ∈ ns, x < y) → SInv T most ns top o → (ns = [] → Share T G top o) → looked T G most ns top o = some r →
    SInv T most [] r.1 r.2 ∧ Share T G r.1 r.2
  | [], top, o, r, _, _, _, h, hs, e => by cases e; exact ⟨h, hs rfl⟩
  | n :: ns, top, o, r, hp, hm, hlt, h, _, e => by
    obtain ⟨st, h1, h2⟩ := List.exists_of_findSome?_eq_some e
    by_cases hs : Share T G st.1 st.2
    · rw [if_pos hs] at h2
      have hnn : n ∉ ns := fun z => Nat.lt_irrefl _ (List.rel_of_pairwise_cons hp z)
      refine looked_sound hp.of_cons (fun x hx => hm x (List.mem_cons_of_mem _ hx)) (fun x hx hx' y hy => ?_) (h.longer (hm n List.mem_cons_self) hnn (fun x hx hx' => hlt x hx hx' n List.mem_cons_self) st h1) (fun _ => hs) h2
      by_cases z : x = n
      · subst z; exact List.rel_of_pairwise_cons hp hy
      · exact hlt x hx (fun w => (List.mem_cons.mp w).elim z hx') y (List.mem_cons_of_mem _ hy)
    · rw [if_neg hs] at h2; cases h2
theorem sinv_fo (same : ∀ x, x ∈ T.nm ↔ x ∈ G.nm) (h : SInv T most [] top o) (hs : Share T G top o) : Fo T G top o where
  same := same
  cov := fun x => by rw [h.cov]; simp
  ne := h.ne
  dj := h.dj
  djs := h.djs
  agT := by
    by_cases e : top = []
    · subst e
      have z : ∀ U : Tr, mt (el []) U = false := fun U => mt_false.mpr fun x _ => el_false.mpr (by simp)
      rw [res_none.mpr (z T), res_none.mpr (z G)]
    · exact hs.1 top List.mem_cons_self e
  ag := fun l hl => hs.1 l (List.mem_cons_of_mem _ hl) (h.ne l hl)
  apT := hs.2.1
  apG := hs.2.2
theorem fo_share (f : Fo T G top o) : Share T G top o := ⟨fun l hl _ => by
  rcases List.mem_cons.mp hl with e | hl
  · subst e; exact f.agT
  · exact f.ag l hl, f.apT, f.apG⟩
/-- of a forest with as few others as can be -/
def Fewest (T G : Tr) (m : Nat) : Prop := (∃ top o, Fo T G top o ∧ o.length = m) ∧ ∀ top o, Fo T G top o → m ≤ o.length
theorem sinv_start {names : List Nat} (hm : ∀ x, x ∈ names ↔ x ∈ T.nm) : SInv T most names [] [] :=
  ⟨fun x => ⟨fun z => (by rcases z with z | ⟨l, hl, _⟩ <;> contradiction), fun z => (z.2 ((hm x).mpr z.1)).elim⟩, fun l hl => (by cases hl), fun l hl => (by cases hl), .nil, ⟨.nil, fun l hl => (by cases hl)⟩, Nat.zero_le _⟩
theorem looked_fo {names : List Nat} {r : Fst} (same : ∀ x, x ∈ T.nm ↔ x ∈ G.nm) (hp : names.Pairwise (· < ·)) (hm : ∀ x, x ∈ names ↔ x ∈ T.nm) (e : looked T G most names [] [] = some r) : SInv T most [] r.1 r.2 ∧ Fo T G r.1 r.2 := by
  have hne : names ≠ [] := fun z => by
    have := (hm _).mpr (fst_mem T)
    rw [z] at this; cases this
  obtain ⟨h1, h2⟩ := looked_sound hp (fun x hx => (hm x).mp hx) (fun x hx hx' => (hx' ((hm x).mpr hx)).elim) (sinv_start hm) (fun z => (hne z).elim) e
  exact ⟨h1, sinv_fo same h1 h2⟩
theorem looked_fewest {names : List Nat} {r : Fst} (hT : T.ok) (hG : G.ok) (same : ∀ x, x ∈ T.nm ↔ x ∈ G.nm) (hp : names.Pairwise (· < ·)) (hm : ∀ x, x ∈ names ↔ x ∈ T.nm) (e : looked T G most names [] [] = some r)
    (no : ∀ m < most, looked T G m names [] [] = none) : Fewest T G most ∧ r.2.length = most := by
  obtain ⟨h1, h2⟩ := looked_fo same hp hm e
  have hnd : names.Nodup := hp.imp fun {a b} h => Nat.ne_of_lt h
  have few : ∀ top o, Fo T G top o → most ≤ o.length := fun top o f => by
    refine Nat.le_of_not_lt fun lt => ?_
    exact looked_finds hT hG hnd hm f (Nat.le_refl _) (no _ lt)
  have : r.2.length = most := Nat.le_antisymm h1.few (few _ _ h2)
  exact ⟨⟨⟨_, _, h2, this⟩, few⟩, this⟩
theorem sub_leaf {x : Nat} : ∀ {t : Tr}, x ∈ t.nm → lf x ∈ t.subs
  | lf i, h => by simp [Tr.nm] at h; subst h; exact self_sub _
  | fk a b, h => by
    rcases List.mem_append.mp h with h | h
    · exact sub_fk.mpr (.inr (.inl (sub_leaf h)))
    · exact sub_fk.mpr (.inr (.inr (sub_leaf h)))
theorem nm_nodup : ∀ {t : Tr}, t.ok → t.nm.Nodup
  | lf i, _ => by simp [Tr.nm]
  | fk a b, h => List.nodup_append.mpr ⟨nm_nodup h.1, nm_nodup h.2.1, fun x hx y hy e => by subst e; exact ok_disj h x hx hy⟩
/-- there is a forest: each name by itself -/
theorem fo_ex (hT : T.ok) (hG : G.ok) (same : ∀ x, x ∈ T.nm ↔ x ∈ G.nm) : Fo T G [] (T.nm.map fun x => [x]) := by
  have one : ∀ {U : Tr}, U.ok → ∀ {x y : Nat}, x ∈ U.nm → x ≠ y → ap (el [x]) false (el [y]) false U = true := fun {U} hU {x y} hx hn =>
    ap_in hU (sub_leaf hx) (fun z _ e => by have := el_true.mp e; simpa [Tr.nm] using this) fun z hz => by
      simp [Tr.nm] at hz; subst hz
      exact el_false.mpr (by simpa using hn)
  have res1 : ∀ {U : Tr}, U.ok → ∀ {x : Nat}, x ∈ U.nm → res (el [x]) U = some (lf x) := fun {U} hU {x} hx => by
    rw [res_in hU (sub_leaf hx) fun z _ e => by have := el_true.mp e; simpa [Tr.nm] using this]
    simp [res]
  have emp : ∀ U : Tr, mt (el []) U = false := fun U => mt_false.mpr fun x _ => el_false.mpr (by simp)
  have apart : ∀ {U : Tr}, U.ok → (∀ x, x ∈ T.nm ↔ x ∈ U.nm) → Apart U [] (T.nm.map fun x => [x]) := fun {U} hU hs =>
    ⟨fun l _ => ap_no (emp U), by
      rw [List.pairwise_map]
      exact (nm_nodup hT).imp_of_mem fun {x y} hx hy hn => one hU ((hs x).mp hx) hn⟩
  refine ⟨same, fun x => ?_, fun l hl => ?_, fun l _ x hx => (by cases hx), ?_, ?_, fun l hl => ?_, apart hT fun _ => Iff.rfl, apart hG same⟩
  · constructor
    · exact fun h => .inr ⟨[x], List.mem_map.mpr ⟨x, h, rfl⟩, by simp⟩
    · rintro (h | ⟨l, hl, h⟩)
      · cases h
      · obtain ⟨y, hy, rfl⟩ := List.mem_map.mp hl
        simp at h; subst h; exact hy
  · obtain ⟨y, _, rfl⟩ := List.mem_map.mp hl; simp
  · rw [List.pairwise_map]
    exact (nm_nodup hT).imp fun {x y} hn z hz hz' => by simp at hz hz'; exact hn (hz.symm.trans hz')
  · rw [res_none.mpr (emp T), res_none.mpr (emp G)]
  · obtain ⟨y, hy, rfl⟩ := List.mem_map.mp hl
    rw [res1 hT hy, res1 hG ((same y).mp hy)]
end

/-! ### how far trees lie apart -/
def IsDist (G T : Tr) (d : Nat) : Prop := Reach d G T ∧ ∀ k, Reach k G T → d ≤ k
section
variable {T G : Tr} {d m : Nat}
theorem IsDist.uniq (h : IsDist G T d) (h' : IsDist G T m) : d = m := Nat.le_antisymm (h.2 _ h'.1) (h'.2 _ h.1)
theorem isDist_self : IsDist T T 0 := ⟨.nil, fun k _ => Nat.zero_le k⟩
theorem dist_fewest (hT : T.ok) (hG : G.ok) (hd : IsDist G T d) (hf : Fewest T G m) : d = m := by
  obtain ⟨top, o, f, e⟩ := hd.1.fo hG
  obtain ⟨⟨tp, op, g, e2⟩, few⟩ := hf
  obtain ⟨k, k1, k2⟩ := g.symm.reach hT rfl hG
  have h1 := few _ _ f.symm
  have h2 := hd.2 k k2
  omega
/-- all trees of the same names are come to, by fewer moves than names -/
theorem dist_ex (hT : T.ok) (hG : G.ok) (same : ∀ x, x ∈ T.nm ↔ x ∈ G.nm) : ∃ d, IsDist G T d ∧ d ≤ T.nm.length := by
  obtain ⟨k, k1, k2⟩ := (fo_ex hT hG same).symm.reach hT rfl hG
  rw [List.length_map] at k1
  have least : ∀ n, Reach n G T → ∃ d, d ≤ n ∧ IsDist G T d := fun n => by
    induction n using Nat.strongRecOn with
    | _ n ih =>
      intro h
      by_cases z : ∃ k, k < n ∧ Reach k G T
      · obtain ⟨k, k1, k2⟩ := z
        obtain ⟨d, d1, d2⟩ := ih k k1 k2
        exact ⟨d, by omega, d2⟩
      · exact ⟨n, Nat.le_refl _, h, fun k hk => Nat.le_of_not_lt fun lt => z ⟨k, lt, hk⟩⟩
  obtain ⟨d, d1, d2⟩ := least k k2
  exact ⟨d, d2, by omega⟩
end
end Jt
end

section
set_option Elab.async false
set_option linter.all false
/-! Names rising, clusters, sizes. Plain Lean. -/
namespace Jt
open Tr
theorem srt_uniq : ∀ {l m : List Nat}, l.Pairwise (· < ·) → m.Pairwise (· < ·) → (∀ x, x ∈ l ↔ x ∈ m) → l = m := fun {l m} h1 h2 h =>
  List.Perm.eq_of_pairwise (le := (· < ·)) (fun a b _ _ h1 h2 => absurd h1 (by omega)) h1 h2 ((List.perm_ext_iff_of_nodup (h1.imp fun h => Nat.ne_of_lt h) (h2.imp fun h => Nat.ne_of_lt h)).mpr h)
theorem srt_nodup {l : List Nat} (h : l.Pairwise (· < ·)) : l.Nodup := h.imp fun h => Nat.ne_of_lt h
/-- a tree's names, rising -/
def nmS (t : Tr) : List Nat := (List.range (t.nm.foldr max 0 + 1)).filter fun x => decide (x ∈ t.nm)
theorem le_fold {x : Nat} : ∀ {l : List Nat}, x ∈ l → x ≤ l.foldr max 0
  | [], h => by cases h
  | y :: l, h => by
    simp only [List.foldr_cons]
    rcases List.mem_cons.mp h with e | h
    · omega
    · have := le_fold h; omega
theorem mem_nmS {t : Tr} {x : Nat} : x ∈ nmS t ↔ x ∈ t.nm := by
  unfold nmS
  simp only [List.mem_filter, List.mem_range, decide_eq_true_eq]
  exact ⟨fun h => h.2, fun h => ⟨by have := le_fold h; omega, h⟩⟩
theorem srt_nmS (t : Tr) : (nmS t).Pairwise (· < ·) := List.Pairwise.filter _ List.pairwise_lt_range
theorem nmS_eq {t : Tr} {l : List Nat} (h1 : l.Pairwise (· < ·)) (h2 : ∀ x, x ∈ l ↔ x ∈ t.nm) : l = nmS t := srt_uniq h1 (srt_nmS t) fun x => (h2 x).trans mem_nmS.symm
theorem nmS_perm {t : Tr} (h : t.ok) : (nmS t).Perm t.nm := (List.perm_ext_iff_of_nodup (srt_nodup (srt_nmS t)) (nm_nodup h)).mpr fun x => mem_nmS
theorem nmS_ne (t : Tr) : nmS t ≠ [] := fun e => by
  have := mem_nmS.mpr (fst_mem t)
  rw [e] at this; cases this
theorem nmS_lf (i : Nat) : nmS (lf i) = [i] := (nmS_eq (by simp) fun x => by simp [Tr.nm]).symm
/-- names below n -/
structure Wf (n : Nat) (t : Tr) : Prop where
  ok : t.ok
  lt : ∀ x ∈ t.nm, x < n
theorem sz_nm : ∀ t : Tr, t.sz + 1 = 2 * t.nm.length
  | lf _ => rfl
  | fk a b => by
    have h1 := sz_nm a
    have h2 := sz_nm b
    simp only [Tr.sz, Tr.nm, List.length_append]; omega
theorem len_lt {l : List Nat} {n : Nat} (h : l.Nodup) (hn : ∀ x ∈ l, x < n) : l.length ≤ n := by
  have := h.length_le_of_subset (l₂ := List.range n) fun x hx => List.mem_range.mpr (hn x hx)
  simpa using this
section
variable {n : Nat} {t a b : Tr}
theorem Wf.len (h : Wf n t) : t.nm.length ≤ n := len_lt (nm_nodup h.ok) h.lt
theorem Wf.sz (h : Wf n t) (hn : n ≤ 5) : t.sz ≤ 9 := by have := h.len; have := sz_nm t; omega
theorem Wf.lenS (h : Wf n t) : (nmS t).length ≤ n := len_lt (srt_nodup (srt_nmS t)) fun x hx => h.lt x (mem_nmS.mp hx)
theorem Wf.l (h : Wf n (fk a b)) : Wf n a := ⟨h.ok.1, fun x hx => h.lt x (List.mem_append_left _ hx)⟩
theorem Wf.r (h : Wf n (fk a b)) : Wf n b := ⟨h.ok.2.1, fun x hx => h.lt x (List.mem_append_right _ hx)⟩
theorem Wf.ltS (h : Wf n t) : ∀ x ∈ nmS t, x < n := fun x hx => h.lt x (mem_nmS.mp hx)
theorem Wf.sub {S : Tr} (h : Wf n t) (hs : S ∈ t.subs) : Wf n S := ⟨sub_ok h.ok hs, fun x hx => h.lt x (sub_nm hs x hx)⟩
theorem Wf.res {p : Nat → Bool} {t' : Tr} (h : Wf n t) (e : res p t = some t') : Wf n t' := ⟨res_ok h.ok e, fun x hx => h.lt x ((res_mem e x).mp hx).1⟩
theorem Wf.fk (ha : Wf n a) (hb : Wf n b) (d : Disj a b) : Wf n (Jt.mk a b) := ⟨ok_mk ha.ok hb.ok d, fun x hx => ((nm_mk a b x).mp hx).elim (ha.lt x) (hb.lt x)⟩
end
/-- the forks in a tree -/
def forks : Tr → List Tr
  | lf _ => []
  | fk a b => fk a b :: (forks a ++ forks b)
theorem mem_forks {S : Tr} : ∀ {t : Tr}, S ∈ forks t ↔ S ∈ t.subs ∧ ∃ a b, S = fk a b
  | lf i => by
    simp only [forks, Tr.subs, List.mem_singleton]
    constructor
    · intro h; cases h
    · rintro ⟨rfl, a, b, e⟩; cases e
  | fk a b => by
    simp only [forks, Tr.subs, List.mem_cons, List.mem_append, mem_forks (t := a), mem_forks (t := b)]
    constructor
    · rintro (e | ⟨h, k⟩ | ⟨h, k⟩)
      · exact ⟨.inl e, a, b, e⟩
      · exact ⟨.inr (.inl h), k⟩
      · exact ⟨.inr (.inr h), k⟩
    · rintro ⟨e | h | h, k⟩
      · exact .inl e
      · exact .inr (.inl ⟨h, k⟩)
      · exact .inr (.inr ⟨h, k⟩)
theorem len_forks : ∀ t : Tr, (forks t).length + 1 = t.nm.length
  | lf _ => rfl
  | fk a b => by
    have h1 := len_forks a
    have h2 := len_forks b
    simp only [forks, Tr.nm, List.length_cons, List.length_append]; omega
/-- two subtrees of the same names are one -/
theorem sub_inj2 {t S R : Tr} (ht : t.ok) (hS : S ∈ t.subs) (hR : R ∈ t.subs) (h : ∀ x, x ∈ S.nm ↔ x ∈ R.nm) : S = R := by
  rcases sub_nest ht hS hR S.fst (fst_mem S) ((h _).mp (fst_mem S)) with k | k
  · exact sub_whole (sub_ok ht hR) k fun x hx => (h x).mpr hx
  · exact (sub_whole (sub_ok ht hS) k fun x hx => (h x).mp hx).symm
theorem nmS_inj {t S R : Tr} (ht : t.ok) (hS : S ∈ t.subs) (hR : R ∈ t.subs) (h : nmS S = nmS R) : S = R :=
  sub_inj2 ht hS hR fun x => by rw [← mem_nmS, h, mem_nmS]
theorem forks_nodup : ∀ {t : Tr}, t.ok → (forks t).Nodup
  | lf _, _ => .nil
  | fk a b, h => by
    refine List.nodup_cons.mpr ⟨fun hm => ?_, List.nodup_append.mpr ⟨forks_nodup h.1, forks_nodup h.2.1, fun x hx y hy e => ?_⟩⟩
    · rcases List.mem_append.mp hm with k | k
      · exact not_sub_l (mem_forks.mp k).1
      · exact not_sub_r (mem_forks.mp k).1
    · subst e
      exact sub_lr h (mem_forks.mp hx).1 (mem_forks.mp hy).1
/-- the lots of a tree's nodes, in some order -/
structure Nodes (t : Tr) (L : List (List Nat)) : Prop where
  nd : L.Nodup
  mem : ∀ l, l ∈ L ↔ ∃ S ∈ t.subs, l = nmS S
section
variable {t : Tr} {L : List (List Nat)}
theorem nodes_of_perm (ht : t.ok) {L1 : List (List Nat)} (h : L1.Perm ((forks t).map nmS)) : Nodes t (L1 ++ (nmS t).map fun x => [x]) := by
  have h1 : L1.Nodup := by
    refine (h.nodup_iff).mpr ?_
    refine List.pairwise_map.mpr ((forks_nodup ht).imp_of_mem fun {x y} hx hy hn e => hn (nmS_inj ht (mem_forks.mp hx).1 (mem_forks.mp hy).1 e))
  have m1 : ∀ l, l ∈ L1 ↔ ∃ S ∈ forks t, l = nmS S := fun l => by
    rw [h.mem_iff, List.mem_map]
    exact ⟨fun ⟨S, a, b⟩ => ⟨S, a, b.symm⟩, fun ⟨S, a, b⟩ => ⟨S, a, b.symm⟩⟩
  refine ⟨List.nodup_append.mpr ⟨h1, ?_, fun x hx y hy e => ?_⟩, fun l => ?_⟩
  · exact List.pairwise_map.mpr ((srt_nodup (srt_nmS t)).imp fun {x y} hn e => hn (by simpa using e))
  · subst e
    obtain ⟨S, hS, rfl⟩ := (m1 _).mp hx
    obtain ⟨z, _, e⟩ := List.mem_map.mp hy
    obtain ⟨hs, a, b, rfl⟩ := mem_forks.mp hS
    have ha : a.fst ∈ nmS (fk a b) := mem_nmS.mpr (List.mem_append_left _ (fst_mem a))
    have hb : b.fst ∈ nmS (fk a b) := mem_nmS.mpr (List.mem_append_right _ (fst_mem b))
    rw [← e] at ha hb
    simp only [List.mem_singleton] at ha hb
    have := (sub_ok ht hs).2.2.1
    omega
  · rw [List.mem_append, m1, List.mem_map]
    constructor
    · rintro (⟨S, hS, e⟩ | ⟨x, hx, e⟩)
      · exact ⟨S, (mem_forks.mp hS).1, e⟩
      · exact ⟨lf x, sub_leaf (mem_nmS.mp hx), by rw [nmS_lf, e]⟩
    · rintro ⟨S, hS, e⟩
      cases S with
      | lf i => exact .inr ⟨i, mem_nmS.mpr (sub_nm hS i (by simp [Tr.nm])), by rw [e, nmS_lf]⟩
      | fk a b => exact .inl ⟨_, mem_forks.mpr ⟨hS, a, b, rfl⟩, e⟩
theorem subs_len : ∀ t : Tr, t.subs.length = t.sz
  | lf _ => rfl
  | fk a b => by simp only [Tr.subs, Tr.sz, List.length_cons, List.length_append, subs_len a, subs_len b]
theorem Nodes.len (h : Nodes t L) : L.length ≤ t.sz := by
  have := h.nd.length_le_of_subset (l₂ := t.subs.map nmS) fun l hl => by
    obtain ⟨S, hS, e⟩ := (h.mem l).mp hl
    exact List.mem_map.mpr ⟨S, hS, e.symm⟩
  rw [List.length_map, subs_len] at this
  exact this
theorem Nodes.perm {L' : List (List Nat)} (h : Nodes t L) (p : L'.Perm L) : Nodes t L' := ⟨p.nodup_iff.mpr h.nd, fun l => (p.mem_iff).trans (h.mem l)⟩
theorem Nodes.lt {n : Nat} (h : Nodes t L) (w : Wf n t) : ∀ l ∈ L, ∀ x ∈ l, x < n := fun l hl x hx => by
  obtain ⟨S, hS, rfl⟩ := (h.mem l).mp hl
  exact (w.sub hS).ltS x hx
theorem Nodes.few {n : Nat} (h : Nodes t L) (w : Wf n t) : ∀ l ∈ L, l.length ≤ n := fun l hl => by
  obtain ⟨S, hS, rfl⟩ := (h.mem l).mp hl
  exact (w.sub hS).lenS
end
theorem perm_of_sub {α : Type} : ∀ {l m : List α}, l.Nodup → l ⊆ m → l.length = m.length → l.Perm m
  | [], m, _, _, e => by
    have : m = [] := List.length_eq_zero_iff.mp e.symm
    subst this; exact .refl _
  | a :: l, m, hn, hs, e => by
    obtain ⟨m1, m2, rfl⟩ := List.append_of_mem (hs List.mem_cons_self)
    obtain ⟨h1, h2⟩ := List.nodup_cons.mp hn
    have := perm_of_sub (l := l) (m := m1 ++ m2) h2 (fun x hx => by
      have := hs (List.mem_cons_of_mem _ hx)
      simp only [List.mem_append, List.mem_cons] at this ⊢
      rcases this with h | h | h
      · exact .inl h
      · subst h; exact (h1 hx).elim
      · exact .inr h) (by simp at e ⊢; omega)
    exact (this.cons a).trans List.perm_middle.symm
theorem perm_map_ex {α β : Type} (f : α → β) : ∀ {zs : List β} {w : List α}, zs.Perm (w.map f) → ∃ w' : List α, w'.Perm w ∧ zs = w'.map f := by
  intro zs w h
  generalize hy : w.map f = y at h
  induction h generalizing w with
  | nil => 
    have : w = [] := by simpa using hy
    subst this; exact ⟨[], .refl _, rfl⟩
  | cons x p ih =>
    rename_i l1 l2
    obtain ⟨a, w1, rfl, rfl, e⟩ : ∃ a w1, w = a :: w1 ∧ f a = x ∧ w1.map f = l2 := by
      cases w with
      | nil => cases hy
      | cons a w1 => simp only [List.map_cons, List.cons.injEq] at hy; exact ⟨a, w1, rfl, hy.1, hy.2⟩
    obtain ⟨w', p', e'⟩ := ih e
    exact ⟨a :: w', p'.cons a, by rw [e']; rfl⟩
  | swap x y l =>
    obtain ⟨a, b, w1, rfl, rfl, rfl, e⟩ : ∃ a b w1, w = a :: b :: w1 ∧ f a = x ∧ f b = y ∧ w1.map f = l := by
      match w, hy with
      | a :: b :: w1, hy => simp only [List.map_cons, List.cons.injEq] at hy; exact ⟨a, b, w1, rfl, hy.1, hy.2.1, hy.2.2⟩
    exact ⟨b :: a :: w1, .swap _ _ _, by rw [← e]; rfl⟩
  | trans p q ih1 ih2 =>
    obtain ⟨w1, p1, e1⟩ := ih2 hy
    obtain ⟨w2, p2, e2⟩ := ih1 e1.symm
    exact ⟨w2, p2.trans p1, e2⟩
end Jt
end

section
set_option Elab.async false
set_option linter.all false
/-! Heads, ways, apartness as the lists of nodes tell them. Plain Lean. -/
namespace Jt
open Tr
section
variable {p : Nat → Bool} {S : Tr}
theorem way_open : ∀ {t : Tr}, S ∈ wayT p true t ↔ S ∈ t.subs ∧ mt p S = true
  | lf i => by
    unfold wayT
    by_cases h : inw p true (lf i) = true
    · rw [if_pos h]
      simp only [List.mem_singleton, Tr.subs]
      exact ⟨fun e => ⟨e, by rw [e]; exact inw_mt h⟩, fun e => e.1⟩
    · rw [if_neg h]
      constructor
      · intro k; cases k
      · rintro ⟨h1, h2⟩
        simp only [Tr.subs, List.mem_singleton] at h1
        subst h1
        exact (h (by rw [inw_true]; exact h2)).elim
  | fk a b => by
    rw [wayT_fk]
    simp only [Bool.true_or, List.mem_append, way_open (t := a), way_open (t := b), sub_fk]
    by_cases h : inw p true (fk a b) = true
    · rw [if_pos h]
      simp only [List.mem_singleton]
      constructor
      · rintro (e | ⟨h1, h2⟩ | ⟨h1, h2⟩)
        · exact ⟨.inl e, by rw [e]; exact inw_mt h⟩
        · exact ⟨.inr (.inl h1), h2⟩
        · exact ⟨.inr (.inr h1), h2⟩
      · rintro ⟨e | h1 | h1, h2⟩
        · exact .inl e
        · exact .inr (.inl ⟨h1, h2⟩)
        · exact .inr (.inr ⟨h1, h2⟩)
    · rw [if_neg h]
      constructor
      · rintro (e | ⟨h1, h2⟩ | ⟨h1, h2⟩)
        · cases e
        · exact ⟨.inr (.inl h1), h2⟩
        · exact ⟨.inr (.inr h1), h2⟩
      · rintro ⟨e | h1 | h1, h2⟩
        · exact (h (by rw [inw_true, ← e]; exact h2)).elim
        · exact .inr (.inl ⟨h1, h2⟩)
        · exact .inr (.inr ⟨h1, h2⟩)
theorem mt_sub {t : Tr} (h : S ∈ t.subs) (hm : mt p S = true) : mt p t = true := by
  obtain ⟨x, hx, h1⟩ := mt_true.mp hm
  exact mt_true.mpr ⟨x, sub_nm h x hx, h1⟩
theorem way_hd : ∀ {t : Tr}, mt p t = true → (S ∈ wayT p false t ↔ S ∈ (hd p t).subs ∧ mt p S = true)
  | lf i, h => by
    have hi : inw p false (lf i) = true := by rw [mt_lf] at h; exact h
    unfold wayT
    rw [if_pos hi]
    simp only [List.mem_singleton, hd, Tr.subs]
    exact ⟨fun e => ⟨e, by rw [e]; exact h⟩, fun e => e.1⟩
  | fk a b, h => by
    rw [wayT_fk]
    simp only [Bool.false_or]
    cases ha : mt p a with
    | true =>
      cases hb : mt p b with
      | true =>
        have hi : inw p false (fk a b) = true := by rw [inw_fk, ha, hb]; rfl
        rw [if_pos hi, hd_both ha hb]
        simp only [List.mem_append, List.mem_singleton, way_open, sub_fk]
        constructor
        · rintro (e | ⟨h1, h2⟩ | ⟨h1, h2⟩)
          · exact ⟨.inl e, by rw [e]; exact h⟩
          · exact ⟨.inr (.inl h1), h2⟩
          · exact ⟨.inr (.inr h1), h2⟩
        · rintro ⟨e | h1 | h1, h2⟩
          · exact .inl e
          · exact .inr (.inl ⟨h1, h2⟩)
          · exact .inr (.inr ⟨h1, h2⟩)
      | false =>
        have hi : ¬ inw p false (fk a b) = true := by rw [inw_fk, ha, hb]; simp
        rw [if_neg hi, hd_l ha hb]
        simp only [List.mem_append, List.not_mem_nil, false_or, way_open, way_hd ha]
        constructor
        · rintro (h1 | ⟨h1, h2⟩)
          · exact h1
          · rw [mt_sub h1 h2] at hb; cases hb
        · exact fun h1 => .inl h1
    | false =>
      have hb : mt p b = true := by rw [mt_fk, ha] at h; simpa using h
      have hi : ¬ inw p false (fk a b) = true := by rw [inw_fk, ha, hb]; simp
      rw [if_neg hi, hd_r ha, hb]
      simp only [List.mem_append, List.not_mem_nil, false_or, way_open, way_hd hb]
      constructor
      · rintro (⟨h1, h2⟩ | h1)
        · rw [mt_sub h1 h2] at ha; cases ha
        · exact h1
      · exact fun h1 => .inr h1
end
section
variable {n : Nat} {t : Tr} {L : List (List Nat)} {l : List Nat}
theorem mtl (hl : ∀ x ∈ l, x ∈ t.nm) (hne : l ≠ []) : mt (el l) t = true := by
  cases l with
  | nil => exact (hne rfl).elim
  | cons x l => exact mt_true.mpr ⟨x, hl x (by simp), el_true.mpr (by simp)⟩
/-- a subtree with no fewer names than a tree is the tree -/
theorem sub_big {S R : Tr} (hR : R.ok) (h : S ∈ R.subs) (hl : (nmS R).length ≤ (nmS S).length) : S = R := by
  refine sub_whole hR h fun x hx => ?_
  have nd := srt_nodup (srt_nmS S)
  have sb : nmS S ⊆ nmS R := fun y hy => mem_nmS.mpr (sub_nm h y (mem_nmS.mp hy))
  rcases Classical.em (x ∈ nmS S) with c | c
  · exact mem_nmS.mp c
  · have : (x :: nmS S).length ≤ (nmS R).length := (List.nodup_cons.mpr ⟨c, nd⟩).length_le_of_subset fun y hy => by
      rcases List.mem_cons.mp hy with e | hy
      · rw [e]; exact mem_nmS.mpr hx
      · exact sb hy
    simp only [List.length_cons] at this
    omega
theorem len_sub {S R : Tr} (h : S ∈ R.subs) : (nmS S).length ≤ (nmS R).length :=
  (srt_nodup (srt_nmS S)).length_le_of_subset fun y hy => mem_nmS.mpr (sub_nm h y (mem_nmS.mp hy))
/-- the least of the nodes that have a lot is its head -/
theorem head_min (ht : t.ok) (hN : Nodes t L) (hl : ∀ x ∈ l, x ∈ t.nm) (hne : l ≠ []) {m : List Nat} (hm : m ∈ L.filter fun N => l.all fun x => decide (x ∈ N)) (hmin : ∀ m' ∈ L.filter (fun N => l.all fun x => decide (x ∈ N)), m.length ≤ m'.length) : m = nmS (hd (el l) t) := by
  have hmt := mtl hl hne
  simp only [List.mem_filter, List.all_eq_true, decide_eq_true_eq] at hm hmin
  obtain ⟨S, hS, rfl⟩ := (hN.mem m).mp hm.1
  have h1 : hd (el l) t ∈ S.subs := hd_least ht hmt hS fun x _ hx => mem_nmS.mp (hm.2 x (el_true.mp hx))
  have h2 := hmin (nmS (hd (el l) t)) ⟨(hN.mem _).mpr ⟨_, hd_sub, rfl⟩, fun x hx => mem_nmS.mpr (hd_has (p := el l) x (hl x hx) (el_true.mpr hx))⟩
  rw [sub_big (sub_ok ht hS) h1 h2]
theorem head_some (hN : Nodes t L) (hl : ∀ x ∈ l, x ∈ t.nm) : nmS (hd (el l) t) ∈ L.filter fun N => l.all fun x => decide (x ∈ N) := by
  simp only [List.mem_filter, List.all_eq_true, decide_eq_true_eq]
  exact ⟨(hN.mem _).mpr ⟨_, hd_sub, rfl⟩, fun x hx => mem_nmS.mpr (hd_has (p := el l) x (hl x hx) (el_true.mpr hx))⟩
/-- the nodes in a lot's way -/
def wayF (t : Tr) (l : List Nat) (top : Bool) (L : List (List Nat)) : List (List Nat) := (L.filter fun N => l.any fun x => decide (x ∈ N)).filter fun N => top || decide (N.length ≤ (nmS (hd (el l) t)).length)
theorem mem_wayF (ht : t.ok) (hN : Nodes t L) {top : Bool} (hl : top = false → l ≠ [] ∧ ∀ x ∈ l, x ∈ t.nm) {S : Tr} (hS : S ∈ t.subs) : nmS S ∈ wayF t l top L ↔ S ∈ wayT (el l) top t := by
  have hany : (l.any fun x => decide (x ∈ nmS S)) = true ↔ mt (el l) S = true := by
    rw [List.any_eq_true, mt_true]
    simp only [decide_eq_true_eq]
    exact ⟨fun ⟨x, a, b⟩ => ⟨x, mem_nmS.mp b, a⟩, fun ⟨x, a, b⟩ => ⟨x, b, mem_nmS.mpr a⟩⟩
  have hmem : nmS S ∈ L := (hN.mem _).mpr ⟨S, hS, rfl⟩
  unfold wayF
  rw [List.mem_filter, List.mem_filter]
  cases top with
  | true =>
    rw [way_open, hany]
    simp [hmem, hS]
  | false =>
    obtain ⟨hne, hsub⟩ := hl rfl
    have hmt := mtl hsub hne
    rw [way_hd hmt, hany]
    simp only [Bool.false_or, decide_eq_true_eq, hmem, true_and]
    constructor
    · rintro ⟨h1, h2⟩
      refine ⟨?_, h1⟩
      obtain ⟨x, hx, hxl⟩ := mt_true.mp h1
      have hxh := hd_has (p := el l) x (sub_nm hS x hx) hxl
      rcases sub_nest ht hS hd_sub x hx hxh with k | k
      · exact k
      · have := sub_big (sub_ok ht hS) k h2
        rw [this]; exact self_sub _
    · rintro ⟨h1, h2⟩
      exact ⟨h2, len_sub h1⟩
theorem wayF_nd (hN : Nodes t L) {top : Bool} : (wayF t l top L).Nodup := (hN.nd.filter _).filter _
theorem wayF_sub {top : Bool} : ∀ N ∈ wayF t l top L, N ∈ L := fun N h => (List.mem_filter.mp (List.mem_filter.mp h).1).1
end
end Jt
namespace Jt
open Tr
section
variable {n : Nat} {t : Tr} {L : List (List Nat)} {top : List Nat} {o : List (List Nat)}
/-- all ways in one list -/
def ways (t : Tr) (top : List Nat) (o : List (List Nat)) (L : List (List Nat)) : List (List Nat) := wayF t top true L ++ (o.map fun l => wayF t l false L).flatten
theorem way_disj (ht : t.ok) (hN : Nodes t L) {l m : List Nat} {a b : Bool} (h1 : a = false → l ≠ [] ∧ ∀ x ∈ l, x ∈ t.nm) (h2 : b = false → m ≠ [] ∧ ∀ x ∈ m, x ∈ t.nm) :
    (∀ x ∈ wayF t l a L, ∀ y ∈ wayF t m b L, x ≠ y) ↔ ap (el l) a (el m) b t = true := by
  rw [ap_iff ht]
  constructor
  · intro h N hN1 hN2
    have hs := wayT_sub hN1
    exact h (nmS N) ((mem_wayF ht hN h1 hs).mpr hN1) (nmS N) ((mem_wayF ht hN h2 hs).mpr hN2) rfl
  · intro h x hx y hy e
    subst e
    obtain ⟨S, hS, rfl⟩ := (hN.mem x).mp (wayF_sub x hx)
    exact h S ((mem_wayF ht hN h1 hS).mp hx) ((mem_wayF ht hN h2 hS).mp hy)
theorem ways_apart (ht : t.ok) (hN : Nodes t L) (ho : ∀ l ∈ o, l ≠ [] ∧ ∀ x ∈ l, x ∈ t.nm) : (ways t top o L).Nodup ↔ Apart t top o := by
  unfold ways Apart
  rw [List.nodup_append]
  have fl : (o.map fun l => wayF t l false L).flatten.Nodup ↔ o.Pairwise fun l m => ap (el l) false (el m) false t = true := by
    unfold List.Nodup
    rw [List.pairwise_flatten, List.pairwise_map]
    constructor
    · rintro ⟨_, h⟩
      exact h.imp_of_mem fun {a b} ha hb k => (way_disj ht hN (fun _ => ho a ha) fun _ => ho b hb).mp k
    · intro h
      refine ⟨fun l hl => ?_, h.imp_of_mem fun {a b} ha hb k => (way_disj ht hN (fun _ => ho a ha) fun _ => ho b hb).mpr k⟩
      obtain ⟨m, _, rfl⟩ := List.mem_map.mp hl
      exact wayF_nd hN
  rw [fl]
  constructor
  · rintro ⟨_, h2, h3⟩
    refine ⟨fun l hl => (way_disj ht hN (fun z => by cases z) fun _ => ho l hl).mp fun x hx y hy => h3 x hx y (List.mem_flatten.mpr ⟨_, List.mem_map.mpr ⟨l, hl, rfl⟩, hy⟩), h2⟩
  · rintro ⟨h1, h2⟩
    refine ⟨wayF_nd hN, h2, fun x hx y hy => ?_⟩
    obtain ⟨W, hW, hyW⟩ := List.mem_flatten.mp hy
    obtain ⟨l, hl, rfl⟩ := List.mem_map.mp hW
    exact (way_disj ht hN (fun z => by cases z) fun _ => ho l hl).mpr (h1 l hl) x hx y hyW
theorem wayF_len {l : List Nat} {b : Bool} : (wayF t l b L).length ≤ L.length := Nat.le_trans (List.length_filter_le _ _) (List.length_filter_le _ _)
theorem ways_fl_len (k : Nat) (hk : L.length ≤ k) : ∀ o : List (List Nat), (o.map fun l => wayF t l false L).flatten.length ≤ k * o.length
  | [] => by simp
  | l :: o => by
    have h1 := ways_fl_len k hk o
    have h2 := wayF_len (t := t) (L := L) (l := l) (b := false)
    simp only [List.map_cons, List.flatten_cons, List.length_append, List.length_cons]
    rw [Nat.mul_add, Nat.mul_one]
    omega
theorem ways_lt (hN : Nodes t L) (w : Wf n t) : ∀ W ∈ ways t top o L, ∀ x ∈ W, x < n := fun W hW x hx => by
  rcases List.mem_append.mp hW with h | h
  · exact hN.lt w W (wayF_sub W h) x hx
  · obtain ⟨V, hV, h⟩ := List.mem_flatten.mp h
    obtain ⟨l, _, rfl⟩ := List.mem_map.mp hV
    exact hN.lt w W (wayF_sub W h) x hx
end
end Jt

namespace Jt
theorem fl_len_ge : ∀ {o : List (List Nat)}, (∀ l ∈ o, l ≠ []) → o.length ≤ o.flatten.length
  | [], _ => by simp
  | l :: o, h => by
    have h1 := fl_len_ge (o := o) fun m hm => h m (List.mem_cons_of_mem _ hm)
    have h2 := List.length_pos_iff.mpr (h l List.mem_cons_self)
    simp only [List.flatten_cons, List.length_append, List.length_cons]
    omega
section
variable {T : Tr} {most n : Nat} {ns top : List Nat} {o : List (List Nat)}
theorem SInv.nd (h : SInv T most ns top o) : (top ++ o.flatten).Nodup := by
  rw [List.nodup_append]
  refine ⟨srt_nodup h.srt.1, ?_, fun x hx y hy e => ?_⟩
  · unfold List.Nodup
    rw [List.pairwise_flatten]
    exact ⟨fun l hl => srt_nodup (h.srt.2 l hl), h.djs.imp fun {a b} k x hx y hy e => k x hx (by rw [e]; exact hy)⟩
  · subst e
    obtain ⟨l, hl, hx'⟩ := List.mem_flatten.mp hy
    exact h.dj l hl x hx hx'
theorem SInv.lt (h : SInv T most ns top o) (w : Wf n T) : ∀ x ∈ top ++ o.flatten, x < n := fun x hx => by
  refine w.lt x ((h.cov x).mp ?_).1
  rcases List.mem_append.mp hx with k | k
  · exact .inl k
  · obtain ⟨l, hl, hx'⟩ := List.mem_flatten.mp k
    exact .inr ⟨l, hl, hx'⟩
theorem SInv.few5 (h : SInv T most ns top o) (w : Wf n T) : o.length ≤ n ∧ top.length ≤ n ∧ ∀ l ∈ o, l.length ≤ n := by
  have h1 := len_lt h.nd (h.lt w)
  have h2 := fl_len_ge h.ne
  rw [List.length_append] at h1
  refine ⟨by omega, by omega, fun l hl => ?_⟩
  exact len_lt (srt_nodup (h.srt.2 l hl)) fun x hx => h.lt w x (List.mem_append_right _ (List.mem_flatten.mpr ⟨l, hl, hx⟩))
end
end Jt
end

section
set_option Elab.async false
set_option linter.all false
/-! The text by places. -/
namespace JH
open PySem PySem.Spec PyProof.Rows L2
def top (i : Nat) : Stmt := PySem.Challenge.pw_joinedtrees_k56_whole_no_fewer_moves.main.body.getD i (.Pass ⟨0, 0, 0, 0⟩)
abbrev s_is_name : Stmt := top 7
abbrev s_is_lot : Stmt := top 8
abbrev s_first_name : Stmt := top 9
abbrev s_standing : Stmt := top 10
abbrev s_fork_of : Stmt := top 11
abbrev s_names_in : Stmt := top 12
abbrev s_lots_below : Stmt := top 13
abbrev s_lots_of : Stmt := top 14
abbrev s_part_to : Stmt := top 15
abbrev s_tree_to : Stmt := top 16
abbrev s_nodes_of : Stmt := top 18
abbrev s_has_all : Stmt := top 19
abbrev s_head_of : Stmt := top 20
abbrev s_way_of : Stmt := top 21
abbrev s_are_apart : Stmt := top 22
abbrev s_are_parts : Stmt := top 23
abbrev s_share : Stmt := top 24
abbrev s_lets_forest : Stmt := top 28
abbrev s_longer_ones : Stmt := top 30
abbrev s_looked_for : Stmt := top 31
abbrev s_fewest_forest : Stmt := top 32
abbrev s_names_left : Stmt := top 34
abbrev s_is_move : Stmt := top 35
abbrev s_put_beside : Stmt := top 36
abbrev s_does : Stmt := top 37
abbrev s_led : Stmt := top 38
abbrev s_moved : Stmt := top 39
abbrev s_free_lot : Stmt := top 41
abbrev s_nodes_above : Stmt := top 42
abbrev s_met_above : Stmt := top 43
abbrev s_one_lot : Stmt := top 44
abbrev s_Leading___init__ : Stmt := inClass (top 45) 0
abbrev s_Leading_move : Stmt := inClass (top 45) 1
abbrev s_Leading_go_on : Stmt := inClass (top 45) 2
abbrev s_moves_by : Stmt := top 46
abbrev s_fewest_moves : Stmt := top 47
abbrev s_lawpen : Stmt := top 49
abbrev s_lawdraw : Stmt := top 50
abbrev s_lawnames : Stmt := top 51
abbrev s_lawleast : Stmt := top 52
abbrev s_lawfork : Stmt := top 53
abbrev s_lawtree : Stmt := top 54
abbrev s_lawbelow : Stmt := top 55
abbrev s_lawto : Stmt := top 56
abbrev s_lawlots : Stmt := top 57
abbrev s_lawnodes : Stmt := top 58
abbrev s_lawhead : Stmt := top 59
abbrev s_lawway : Stmt := top 60
abbrev s_lawis_forest : Stmt := top 61
abbrev s_lawall_parts : Stmt := top 62
abbrev s_lawput : Stmt := top 63
abbrev s_lawmoved : Stmt := top 64
abbrev s_lawmoves : Stmt := top 65
abbrev s_lawpair : Stmt := top 66
abbrev s_lawforests : Stmt := top 67
abbrev s_lawtext : Stmt := top 68
abbrev s_lawfar : Stmt := top 69
abbrev s_law : Stmt := top 70
end JH
end

section
set_option Elab.async false
set_option linter.all false
set_option maxRecDepth 100000
set_option maxHeartbeats 0
/-! The head of the row: the text by places, its facts, the one run of the top. -/
namespace JH
open PySem PySem.Spec PyProof.Rows L2
def d_is_name : He.DefD := ⟨("is_name", none), "is_name", "is_name", defArgs s_is_name, defBody s_is_name, defScope s_is_name, [], []⟩
def d_is_lot : He.DefD := ⟨("is_lot", none), "is_lot", "is_lot", defArgs s_is_lot, defBody s_is_lot, defScope s_is_lot, [], []⟩
def d_first_name : He.DefD := ⟨("first_name", none), "first_name", "first_name", defArgs s_first_name, defBody s_first_name, defScope s_first_name, [], []⟩
def d_standing : He.DefD := ⟨("standing", none), "standing", "standing", defArgs s_standing, defBody s_standing, defScope s_standing, [], []⟩
def d_fork_of : He.DefD := ⟨("fork_of", none), "fork_of", "fork_of", defArgs s_fork_of, defBody s_fork_of, defScope s_fork_of, [], []⟩
def d_names_in : He.DefD := ⟨("names_in", none), "names_in", "names_in", defArgs s_names_in, defBody s_names_in, defScope s_names_in, [], []⟩
def d_lots_below : He.DefD := ⟨("lots_below", none), "lots_below", "lots_below", defArgs s_lots_below, defBody s_lots_below, defScope s_lots_below, [], []⟩
def d_lots_of : He.DefD := ⟨("lots_of", none), "lots_of", "lots_of", defArgs s_lots_of, defBody s_lots_of, defScope s_lots_of, [], []⟩
def d_part_to : He.DefD := ⟨("part_to", none), "part_to", "part_to", defArgs s_part_to, defBody s_part_to, defScope s_part_to, [], []⟩
def d_tree_to : He.DefD := ⟨("tree_to", none), "tree_to", "tree_to", defArgs s_tree_to, defBody s_tree_to, defScope s_tree_to, [], []⟩
def d_nodes_of : He.DefD := ⟨("nodes_of", none), "nodes_of", "nodes_of", defArgs s_nodes_of, defBody s_nodes_of, defScope s_nodes_of, [], []⟩
def d_has_all : He.DefD := ⟨("has_all", none), "has_all", "has_all", defArgs s_has_all, defBody s_has_all, defScope s_has_all, [], []⟩
def d_head_of : He.DefD := ⟨("head_of", none), "head_of", "head_of", defArgs s_head_of, defBody s_head_of, defScope s_head_of, [], []⟩
def d_way_of : He.DefD := ⟨("way_of", none), "way_of", "way_of", defArgs s_way_of, defBody s_way_of, defScope s_way_of, [], [("is_top", .bl false)]⟩
def d_are_apart : He.DefD := ⟨("are_apart", none), "are_apart", "are_apart", defArgs s_are_apart, defBody s_are_apart, defScope s_are_apart, [], []⟩
def d_are_parts : He.DefD := ⟨("are_parts", none), "are_parts", "are_parts", defArgs s_are_parts, defBody s_are_parts, defScope s_are_parts, [], []⟩
def d_share : He.DefD := ⟨("share", none), "share", "share", defArgs s_share, defBody s_share, defScope s_share, [], []⟩
def d_lets_forest : He.DefD := ⟨("lets_forest", none), "lets_forest", "lets_forest", defArgs s_lets_forest, defBody s_lets_forest, defScope s_lets_forest, [], [("ringless", .bl false)]⟩
def d_longer_ones : He.DefD := ⟨("longer_ones", none), "longer_ones", "longer_ones", defArgs s_longer_ones, defBody s_longer_ones, defScope s_longer_ones, [], []⟩
def d_looked_for : He.DefD := ⟨("looked_for", none), "looked_for", "looked_for", defArgs s_looked_for, defBody s_looked_for, defScope s_looked_for, [], []⟩
def d_fewest_forest : He.DefD := ⟨("fewest_forest", none), "fewest_forest", "fewest_forest", defArgs s_fewest_forest, defBody s_fewest_forest, defScope s_fewest_forest, [], [("ringless", .bl false)]⟩
def d_names_left : He.DefD := ⟨("names_left", none), "names_left", "names_left", defArgs s_names_left, defBody s_names_left, defScope s_names_left, [], []⟩
def d_is_move : He.DefD := ⟨("is_move", none), "is_move", "is_move", defArgs s_is_move, defBody s_is_move, defScope s_is_move, [], []⟩
def d_put_beside : He.DefD := ⟨("put_beside", none), "put_beside", "put_beside", defArgs s_put_beside, defBody s_put_beside, defScope s_put_beside, [], []⟩
def d_does : He.DefD := ⟨("does", none), "does", "does", defArgs s_does, defBody s_does, defScope s_does, [], []⟩
def d_led : He.DefD := ⟨("led", none), "led", "led", defArgs s_led, defBody s_led, defScope s_led, [], []⟩
def d_moved : He.DefD := ⟨("moved", none), "moved", "moved", defArgs s_moved, defBody s_moved, defScope s_moved, [], []⟩
def d_free_lot : He.DefD := ⟨("free_lot", none), "free_lot", "free_lot", defArgs s_free_lot, defBody s_free_lot, defScope s_free_lot, [], []⟩
def d_nodes_above : He.DefD := ⟨("nodes_above", none), "nodes_above", "nodes_above", defArgs s_nodes_above, defBody s_nodes_above, defScope s_nodes_above, [], []⟩
def d_met_above : He.DefD := ⟨("met_above", none), "met_above", "met_above", defArgs s_met_above, defBody s_met_above, defScope s_met_above, [], []⟩
def d_one_lot : He.DefD := ⟨("one_lot", none), "one_lot", "one_lot", defArgs s_one_lot, defBody s_one_lot, defScope s_one_lot, [], []⟩
def d_Leading___init__ : He.DefD := ⟨("Leading", some "__init__"), "__init__", "Leading.__init__", defArgs s_Leading___init__, defBody s_Leading___init__, defScope s_Leading___init__, [], []⟩
def d_Leading_move : He.DefD := ⟨("Leading", some "move"), "move", "Leading.move", defArgs s_Leading_move, defBody s_Leading_move, defScope s_Leading_move, [], []⟩
def d_Leading_go_on : He.DefD := ⟨("Leading", some "go_on"), "go_on", "Leading.go_on", defArgs s_Leading_go_on, defBody s_Leading_go_on, defScope s_Leading_go_on, [], []⟩
def d_moves_by : He.DefD := ⟨("moves_by", none), "moves_by", "moves_by", defArgs s_moves_by, defBody s_moves_by, defScope s_moves_by, [], []⟩
def d_fewest_moves : He.DefD := ⟨("fewest_moves", none), "fewest_moves", "fewest_moves", defArgs s_fewest_moves, defBody s_fewest_moves, defScope s_fewest_moves, [], []⟩
def d_lawpen : He.DefD := ⟨("_law_pen", none), "_law_pen", "_law_pen", defArgs s_lawpen, defBody s_lawpen, defScope s_lawpen, [], []⟩
def d_lawdraw : He.DefD := ⟨("_law_draw", none), "_law_draw", "_law_draw", defArgs s_lawdraw, defBody s_lawdraw, defScope s_lawdraw, [], []⟩
def d_lawnames : He.DefD := ⟨("_law_names", none), "_law_names", "_law_names", defArgs s_lawnames, defBody s_lawnames, defScope s_lawnames, [], []⟩
def d_lawleast : He.DefD := ⟨("_law_least", none), "_law_least", "_law_least", defArgs s_lawleast, defBody s_lawleast, defScope s_lawleast, [], []⟩
def d_lawfork : He.DefD := ⟨("_law_fork", none), "_law_fork", "_law_fork", defArgs s_lawfork, defBody s_lawfork, defScope s_lawfork, [], []⟩
def d_lawtree : He.DefD := ⟨("_law_tree", none), "_law_tree", "_law_tree", defArgs s_lawtree, defBody s_lawtree, defScope s_lawtree, [], []⟩
def d_lawbelow : He.DefD := ⟨("_law_below", none), "_law_below", "_law_below", defArgs s_lawbelow, defBody s_lawbelow, defScope s_lawbelow, [], []⟩
def d_lawto : He.DefD := ⟨("_law_to", none), "_law_to", "_law_to", defArgs s_lawto, defBody s_lawto, defScope s_lawto, [], []⟩
def d_lawlots : He.DefD := ⟨("_law_lots", none), "_law_lots", "_law_lots", defArgs s_lawlots, defBody s_lawlots, defScope s_lawlots, [], []⟩
def d_lawnodes : He.DefD := ⟨("_law_nodes", none), "_law_nodes", "_law_nodes", defArgs s_lawnodes, defBody s_lawnodes, defScope s_lawnodes, [], []⟩
def d_lawhead : He.DefD := ⟨("_law_head", none), "_law_head", "_law_head", defArgs s_lawhead, defBody s_lawhead, defScope s_lawhead, [], []⟩
def d_lawway : He.DefD := ⟨("_law_way", none), "_law_way", "_law_way", defArgs s_lawway, defBody s_lawway, defScope s_lawway, [], []⟩
def d_lawis_forest : He.DefD := ⟨("_law_is_forest", none), "_law_is_forest", "_law_is_forest", defArgs s_lawis_forest, defBody s_lawis_forest, defScope s_lawis_forest, [], []⟩
def d_lawall_parts : He.DefD := ⟨("_law_all_parts", none), "_law_all_parts", "_law_all_parts", defArgs s_lawall_parts, defBody s_lawall_parts, defScope s_lawall_parts, [], []⟩
def d_lawput : He.DefD := ⟨("_law_put", none), "_law_put", "_law_put", defArgs s_lawput, defBody s_lawput, defScope s_lawput, [], []⟩
def d_lawmoved : He.DefD := ⟨("_law_moved", none), "_law_moved", "_law_moved", defArgs s_lawmoved, defBody s_lawmoved, defScope s_lawmoved, [], []⟩
def d_lawmoves : He.DefD := ⟨("_law_moves", none), "_law_moves", "_law_moves", defArgs s_lawmoves, defBody s_lawmoves, defScope s_lawmoves, [], []⟩
def d_lawpair : He.DefD := ⟨("_law_pair", none), "_law_pair", "_law_pair", defArgs s_lawpair, defBody s_lawpair, defScope s_lawpair, [], []⟩
def d_lawforests : He.DefD := ⟨("_law_forests", none), "_law_forests", "_law_forests", defArgs s_lawforests, defBody s_lawforests, defScope s_lawforests, [], []⟩
def d_lawtext : He.DefD := ⟨("_law_text", none), "_law_text", "_law_text", defArgs s_lawtext, defBody s_lawtext, defScope s_lawtext, [], []⟩
def d_lawfar : He.DefD := ⟨("_law_far", none), "_law_far", "_law_far", defArgs s_lawfar, defBody s_lawfar, defScope s_lawfar, [], []⟩
def d_law : He.DefD := ⟨("law", none), "law", "law", defArgs s_law, defBody s_law, defScope s_law, [], []⟩
def fn : List He.DefD := [d_is_name, d_is_lot, d_first_name, d_standing, d_fork_of, d_names_in, d_lots_below, d_lots_of, d_part_to, d_tree_to, d_nodes_of, d_has_all, d_head_of, d_way_of, d_are_apart, d_are_parts, d_share, d_lets_forest, d_longer_ones, d_looked_for, d_fewest_forest, d_names_left, d_is_move, d_put_beside, d_does, d_led, d_moved, d_free_lot, d_nodes_above, d_met_above, d_one_lot, d_Leading___init__, d_Leading_move, d_Leading_go_on, d_moves_by, d_fewest_moves, d_lawpen, d_lawdraw, d_lawnames, d_lawleast, d_lawfork, d_lawtree, d_lawbelow, d_lawto, d_lawlots, d_lawnodes, d_lawhead, d_lawway, d_lawis_forest, d_lawall_parts, d_lawput, d_lawmoved, d_lawmoves, d_lawpair, d_lawforests, d_lawtext, d_lawfar, d_law]
def fa : List He.Fa := [.glo "is_name", .glo "is_lot", .glo "first_name", .glo "standing", .glo "fork_of", .glo "names_in", .glo "lots_below", .glo "lots_of", .glo "part_to", .glo "tree_to", .glo "nodes_of", .glo "has_all", .glo "head_of", .glo "way_of", .glo "are_apart", .glo "are_parts", .glo "share", .glo "lets_forest", .glo "longer_ones", .glo "looked_for", .glo "fewest_forest", .glo "names_left", .glo "is_move", .glo "put_beside", .glo "does", .glo "led", .glo "moved", .glo "free_lot", .glo "nodes_above", .glo "met_above", .glo "one_lot", .glo "moves_by", .glo "fewest_moves", .glo "_law_pen", .glo "_law_draw", .glo "_law_names", .glo "_law_least", .glo "_law_fork", .glo "_law_tree", .glo "_law_below", .glo "_law_to", .glo "_law_lots", .glo "_law_nodes", .glo "_law_head", .glo "_law_way", .glo "_law_is_forest", .glo "_law_all_parts", .glo "_law_put", .glo "_law_moved", .glo "_law_moves", .glo "_law_pair", .glo "_law_forests", .glo "_law_text", .glo "_law_far", .glo "law", .free "abs", .free "all", .free "any", .free "enumerate", .free "int", .free "isinstance", .free "len", .free "list", .free "min", .free "range", .free "set", .free "sorted", .free "str", .free "tuple", .str "LETTERS" "abcdefghijklmnopqrstuvwxyz", .int "LONGEST" 8, .glo "Leading", .cls "Leading", .mkr "Leading", .meth "Leading" "move", .meth "Leading" "go_on", .noat "Leading" "tree", .noat "Leading" "goal", .noat "Leading" "top", .noat "Leading" "others", .noat "Leading" "moves"]
def loose : List PySem.Str := (["JoinError", "NoForest", "NoMove", "LETTERS", "LONGEST", "is_name", "is_lot", "first_name", "standing", "fork_of", "names_in", "lots_below", "lots_of", "part_to", "tree_to", "nodes_of", "has_all", "head_of", "way_of", "are_apart"] : List PySem.Str) ++ (["are_parts", "share", "heads_in", "is_above", "order_of", "lets_forest", "longer_ones", "looked_for", "fewest_forest", "names_left", "is_move", "put_beside", "does", "led", "moved", "free_lot", "nodes_above", "met_above", "one_lot", "Leading"] : List PySem.Str) ++ (["moves_by", "fewest_moves", "_law_pen", "_law_draw", "_law_names", "_law_least", "_law_fork", "_law_tree", "_law_below", "_law_to", "_law_lots", "_law_nodes", "_law_head", "_law_way", "_law_is_forest", "_law_all_parts", "_law_put", "_law_moved", "_law_moves", "_law_pair"] : List PySem.Str) ++ (["_law_forests", "_law_text", "_law_far"] : List PySem.Str)
abbrev R : PySem.W.OpenRow := PySem.W.OpenLaw.row PySem.Challenge.rw_joinedtrees_k56_whole_no_fewer_moves
abbrev hk : PySem.W.Hook := He.hookD 4 fa fn
def ob (s : PySem.W.SharedT) : He.AlD := He.obsDG 4 fa fn (HandSHeadRun.getT s)
theorem ob_eq (s : PySem.W.SharedT) : ob s = hk.obs s.abs := He.obsDG_eq (HandSHeadRun.getT_eq s)
theorem run (w : World) : HandSHeadRun.RunEq R (PySem.W.view R.prog [70]) hk ob 3000 loose w := by
  intro os
  kernel_rfl
end JH
end

section
set_option Elab.async false
set_option linter.all false
set_option maxRecDepth 100000
set_option maxHeartbeats 4000000
/-! The walk's own words: what stands in the heap for the plain data; readings in peels; comprehensions. -/
namespace Jw
open PySem PySem.Spec PyProof.Rows L2 Jt

/-! ### pairs of lists -/
inductive P2 {α β : Type} (R : α → β → Prop) : List α → List β → Prop
  | nil : P2 R [] []
  | cons {a : α} {b : β} {as : List α} {bs : List β} : R a b → P2 R as bs → P2 R (a :: as) (b :: bs)
section
variable {α β : Type} {R R' : α → β → Prop} {as as' : List α} {bs bs' : List β}
theorem P2.imp (h : P2 R as bs) (f : ∀ a b, R a b → R' a b) : P2 R' as bs := by
  induction h with
  | nil => exact .nil
  | cons r _ ih => exact .cons (f _ _ r) ih
theorem P2.len (h : P2 R as bs) : as.length = bs.length := by
  induction h with
  | nil => rfl
  | cons _ _ ih => simp [ih]
theorem P2.app (h : P2 R as bs) (g : P2 R as' bs') : P2 R (as ++ as') (bs ++ bs') := by
  induction h with
  | nil => exact g
  | cons r _ ih => exact .cons r ih
theorem P2.get (h : P2 R as bs) : ∀ {i : Nat} {a : α}, as[i]? = some a → ∃ b, bs[i]? = some b ∧ R a b := by
  induction h with
  | nil => intro i a e; simp at e
  | cons r _ ih =>
    intro i a e
    cases i with
    | zero => simp at e; subst e; exact ⟨_, rfl, r⟩
    | succ i => simpa using ih (by simpa using e)
theorem P2.get' (h : P2 R as bs) : ∀ {i : Nat} {b : β}, bs[i]? = some b → ∃ a, as[i]? = some a ∧ R a b := by
  induction h with
  | nil => intro i a e; simp at e
  | cons r _ ih =>
    intro i a e
    cases i with
    | zero => simp at e; subst e; exact ⟨_, rfl, r⟩
    | succ i => simpa using ih (by simpa using e)
theorem P2.map {γ : Type} {f : γ → α} {g : γ → β} (l : List γ) (h : ∀ c ∈ l, R (f c) (g c)) : P2 R (l.map f) (l.map g) := by
  induction l with
  | nil => exact .nil
  | cons c l ih => exact .cons (h c List.mem_cons_self) (ih fun d hd => h d (List.mem_cons_of_mem _ hd))
end

/-! ### what stands in the heap -/
/-- what hangs on no list: it stays where lists change -/
def NoL : HO → Prop
  | .lst _ => False
  | .dK _ => False
  | .ins _ _ _ => False
  | _ => True
/-- all but what may change stands as it was -/
def Tups (H H' : Hp) : Prop := ∀ a o, H a = some o → NoL o → H' a = some o
theorem Same.tups {H H' : Hp} (s : Same H H') : Tups H H' := fun a o h _ => s a o h
theorem Tups.refl (H : Hp) : Tups H H := fun _ _ h _ => h
theorem Tups.trans {H H1 H2 : Hp} (a : Tups H H1) (b : Tups H1 H2) : Tups H H2 := fun x o h n => b x o (a x o h n) n
theorem tups_upd {H : Hp} {a : Addr} {o u : HO} (h : H a = some o) (n : ¬ NoL o) : Tups H (upd H a u) := fun b v e nv => by
  have : b ≠ a := fun z => by rw [z, h] at e; cases e; exact n nv
  rw [upd_ne this]; exact e
theorem tups_lst {H : Hp} {a : Addr} {xs : List V} {u : HO} (h : H a = some (.lst xs)) : Tups H (upd H a u) := tups_upd h id
theorem tups_dK {H : Hp} {a : Addr} {kvs : List (Key × V)} {u : HO} (h : H a = some (.dK kvs)) : Tups H (upd H a u) := tups_upd h id
theorem tups_ins {H : Hp} {a C dx : Addr} {fs : List (Str × V)} {u : HO} (h : H a = some (.ins C dx fs)) : Tups H (upd H a u) := tups_upd h id
theorem same_new {H : Hp} {p : Addr} (h : H p = none) (o : HO) : Same H (upd H p o) := fun b u e => by
  rw [upd_ne (ne_of_none e h)]; exact e
theorem same_mut {H0 H : Hp} {p : Addr} {o : HO} (s : Same H0 H) (h : H0 p = none) : Same H0 (upd H p o) := fun b u e => by
  rw [upd_ne (ne_of_none e h)]; exact s b u e
theorem same_t {K : PySem.W.Frag} {H H' : Hp} {a : Addr} {xs : List V} (s : Same H H') (h : SqT K H a xs) : SqT K H' a xs := by
  rcases h with (h | ⟨o, h⟩) | h
  · exact .inl (.inl (s _ _ h))
  · exact .inl (.inr ⟨o, s _ _ h⟩)
  · exact .inr h
/-- a relation of values and data that hangs on tuples alone -/
def TM {α : Type} (R : Hp → V → α → Prop) : Prop := ∀ H H' v a, Tups H H' → R H v a → R H' v a
theorem TM.same {α : Type} {R : Hp → V → α → Prop} (m : TM R) {H H' : Hp} {v : V} {a : α} (s : Same H H') (h : R H v a) : R H' v a := m H H' v a (Same.tups s) h

section
variable (nm : Nat → Str)
abbrev sv (i : Nat) : V := .str (nm i)
/-- a name, a tree -/
def NmV (_ : Hp) (v : V) (i : Nat) : Prop := v = sv nm i
inductive TrV (H : Hp) : V → Tr → Prop
  | lf (i : Nat) : TrV H (sv nm i) (.lf i)
  | fk {p : Addr} {x y : V} {a b : Tr} : H p = some (.tup [x, y]) → TrV H x a → TrV H y b → TrV H (.ref p) (.fk a b)
/-- a lot -/
def LotV (H : Hp) (v : V) (l : List Nat) : Prop := ∃ p, v = .ref p ∧ H p = some (.tup (l.map (sv nm)))
end
/-- a tuple, a list of things -/
def TupV {α : Type} (R : Hp → V → α → Prop) (H : Hp) (v : V) (as : List α) : Prop := ∃ p vs, v = .ref p ∧ H p = some (.tup vs) ∧ P2 (R H) vs as
def LstV {α : Type} (R : Hp → V → α → Prop) (H : Hp) (v : V) (as : List α) : Prop := ∃ p vs, v = .ref p ∧ H p = some (.lst vs) ∧ P2 (R H) vs as
/-- a pair -/
def PrV {α β : Type} (R : Hp → V → α → Prop) (S : Hp → V → β → Prop) (H : Hp) (v : V) (c : α × β) : Prop := ∃ p x y, v = .ref p ∧ H p = some (.tup [x, y]) ∧ R H x c.1 ∧ S H y c.2
section
variable {nm : Nat → Str} {α β : Type} {R : Hp → V → α → Prop} {S : Hp → V → β → Prop}
theorem tm_nm : TM (NmV nm) := fun _ _ _ _ _ h => h
theorem TrV.mono {H H' : Hp} {v : V} {t : Tr} (s : Tups H H') (h : TrV nm H v t) : TrV nm H' v t := by
  induction h with
  | lf i => exact .lf i
  | fk e _ _ ih1 ih2 => exact .fk (s _ _ e trivial) ih1 ih2
theorem tm_tr : TM (TrV nm) := fun _ _ _ _ s h => h.mono s
theorem tm_lot : TM (LotV nm) := fun _ _ _ _ s ⟨p, e, h⟩ => ⟨p, e, s _ _ h trivial⟩
theorem tm_tup (m : TM R) : TM (TupV R) := fun _ _ _ _ s ⟨p, vs, e, h, r⟩ => ⟨p, vs, e, s _ _ h trivial, r.imp fun _ _ k => m _ _ _ _ s k⟩
theorem tm_pr (m : TM R) (n : TM S) : TM (PrV R S) := fun _ _ _ _ s ⟨p, x, y, e, h, r, q⟩ => ⟨p, x, y, e, s _ _ h trivial, m _ _ _ _ s r, n _ _ _ _ s q⟩
theorem LstV.same (m : TM R) {H H' : Hp} {v : V} {as : List α} (s : Same H H') (h : LstV R H v as) : LstV R H' v as :=
  let ⟨p, vs, e, h, r⟩ := h; ⟨p, vs, e, s _ _ h, r.imp fun _ _ k => m.same s k⟩
/-- a lot is a tuple of names -/
theorem lot_tup {H : Hp} {v : V} {l : List Nat} : LotV nm H v l ↔ TupV (NmV nm) H v l := by
  constructor
  · rintro ⟨p, e, h⟩
    refine ⟨p, _, e, h, ?_⟩
    have := P2.map (R := NmV nm H) (f := sv nm) (g := id) l (fun _ _ => rfl)
    rwa [List.map_id] at this
  · rintro ⟨p, vs, e, h, r⟩
    have : vs = l.map (sv nm) := by
      clear h e
      induction r with
      | nil => rfl
      | cons h1 _ ih => rw [ih, h1]; rfl
    subst this
    exact ⟨p, e, h⟩
end

/-! ### readings, layer by layer -/
section
variable {te ta tb tc td tf : TE} {tt tu : TT} {σ : L2.St} {H : Hp} {Q : VK} {D : Ends} {t u : TS} {v : V} {r : List V → Hp → VK → Prop} {sp : Sp} {E : XK} {dvs : List V} {K : PySem.W.Frag}
theorem r_var {i : Nat} (h : σ[i]? = some (some v)) (q : Q v H) : tVar i σ H Q := ⟨v, h, q⟩
theorem r_c (q : Q v H) : tC v σ H Q := q
theorem r_b1 (h : te σ H fun x H1 => r [x] H1 Q) : tCB r (tCons te tNil) σ H Q := h
theorem r_b2 (h : ta σ H fun x H1 => tb σ H1 fun y H2 => r [x, y] H2 Q) : tCB r (tCons ta (tCons tb tNil)) σ H Q := h
theorem r_call1 (h : te σ H fun x H1 => sp [x] H1 Q E) : tCall sp [] E (tCons te tNil) σ H Q := h
theorem r_call2 (h : ta σ H fun x H1 => tb σ H1 fun y H2 => sp [x, y] H2 Q E) : tCall sp [] E (tCons ta (tCons tb tNil)) σ H Q := h
theorem r_call3 (h : ta σ H fun x H1 => tb σ H1 fun y H2 => tc σ H2 fun z H3 => sp [x, y, z] H3 Q E) : tCall sp [] E (tCons ta (tCons tb (tCons tc tNil))) σ H Q := h
theorem r_call4 (h : ta σ H fun x H1 => tb σ H1 fun y H2 => tc σ H2 fun z H3 => td σ H3 fun w H4 => sp [x, y, z, w] H4 Q E) : tCall sp [] E (tCons ta (tCons tb (tCons tc (tCons td tNil)))) σ H Q := h
theorem r_op {r : R2} (h : ta σ H fun x H1 => tb σ H1 fun y H2 => r x y H2 Q) : tOp r ta tb σ H Q := h
theorem r_test {Q : Bool → Hp → Prop} (h : te σ H fun x H1 => ∃ k, x = .bl k ∧ Q k H1) : tTest te σ H Q := h
theorem r_tB {Q : Bool → Hp → Prop} (h : te σ H fun x H1 => ∃ k, x = .bl k ∧ Q k H1) : tB te σ H Q := h
theorem r_not {Q : Bool → Hp → Prop} (h : tt σ H fun c H1 => Q (!c) H1) : tNot tt σ H Q := h
theorem r_and {Q : Bool → Hp → Prop} (h : tt σ H fun c H1 => if c = true then tu σ H1 Q else Q false H1) : tAnd tt tu σ H Q := h
theorem r_or {Q : Bool → Hp → Prop} (h : tt σ H fun c H1 => if c = true then Q true H1 else tu σ H1 Q) : tOr tt tu σ H Q := h
theorem r_andV (h : ta σ H fun x H1 => ∃ c, x = .bl c ∧ if c = true then tb σ H1 Q else Q (.bl false) H1) : tAndV ta tb σ H Q := h
theorem r_ifE (h : tt σ H fun c H1 => if c = true then ta σ H1 Q else tb σ H1 Q) : tIf tt ta tb σ H Q := h
theorem r_tup {ta : TA} (h : ta σ H fun vs H1 => vs.length ≤ sizeLine ∧ ∀ p, H1 p = none → Q (.ref p) (upd H1 p (.tup vs))) : tTup ta σ H Q := h
theorem r_cons {ts : TA} {Q : List V → Hp → Prop} (h : te σ H fun x H1 => ts σ H1 fun xs H2 => Q (x :: xs) H2) : tCons te ts σ H Q := h
theorem r_nil {Q : List V → Hp → Prop} (q : Q [] H) : tNil σ H Q := q
theorem r_ret (h : te σ H D.rt) : tRet te D σ H := h
theorem r_seq (h : t { D with nx := u D } σ H) : tSeq t u D σ H := h
theorem r_set {i : Nat} (h : te σ H fun x H1 => u D (σ.set i (some x)) H1) : tSeq (tAsg te (gName i)) u D σ H := h
theorem r_asg {i : Nat} (h : te σ H fun x H1 => D.nx (σ.set i (some x)) H1) : tAsg te (gName i) D σ H := h
theorem r_if (h : tt σ H fun b H1 => if b = true then t D σ H1 else u D σ H1) : tIfS tt t u D σ H := h
theorem r_fld {f : Str} (h : ta σ H fun x H1 => ∃ a C dx fs v, x = .ref a ∧ H1 a = some (.ins C dx fs) ∧ Cls K C ∧ NoAttr K C f ∧ fs.lookup f = some v ∧ Q v H1) : tFld K ta f σ H Q := h
end

/-! ### rules whose reading names the written part: it is given -/
section
variable {X : Cx} (K : PySem.W.Frag)
def rLenQ : List V → Hp → VK → Prop := fun xs H Q => ∃ p ys, xs = [.ref p] ∧ (SqL K H p ys ∨ SqT K H p ys) ∧ Q (.int ys.length) H
def rListQ : List V → Hp → VK → Prop := fun xs H Q => ∃ p ys, xs = [.ref p] ∧ (SqL K H p ys ∨ SqT K H p ys) ∧ ∀ l, H l = none → Q (.ref l) (upd H l (.lst ys))
def rTupQ : List V → Hp → VK → Prop := fun xs H Q => ∃ p ys, xs = [.ref p] ∧ SqL K H p ys ∧ ∀ l, H l = none → Q (.ref l) (upd H l (.tup ys))
theorem inS (h : X.K = K := by rfl) : OpR X (compareOp .In) (rIn K false) := h ▸ op_in_seq
theorem niS (h : X.K = K := by rfl) : OpR X (compareOp .NotIn) (rIn K true) := h ▸ op_notIn_seq
theorem eqD (hu : X.A.units + 64 < cLine) (h : X.K = K := by rfl) : OpR X (compareOp .Eq) (rEqD K) := h ▸ op_eqD hu
theorem neD (hu : X.A.units + 64 < cLine) (h : X.K = K := by rfl) : OpR X (compareOp .NotEq) (rNeD K) := h ▸ op_neD hu
theorem inDp (hu : X.A.units + 65 < cLine) (h : X.K = K := by rfl) : OpR X (compareOp .In) (rInD K) := h ▸ op_inD hu
theorem ixL (h : X.K = K := by rfl) : IxR X (rIxL K) := h ▸ ix_list
theorem ixT (h : X.K = K := by rfl) : IxR X (rIxT K) := h ▸ ix_tup
theorem lenQ (h : X.K = K := by rfl) : CallR X (.builtin "len") (rLenQ K) := h ▸ call_len_seq
theorem listQ (h : X.K = K := by rfl) : CallR X (.type "list") (rListQ K) := h ▸ call_list_of
theorem tupQ (h : X.K = K := by rfl) : CallR X (.type "tuple") (rTupQ K) := by
  subst h
  intro pins s σ H xs us Q I r q
  obtain ⟨p, ys, e, hs, k⟩ := q
  exact call_tuple_of pins s σ H xs us Q I r ⟨p, ys, e, .inl ⟨hs, k⟩⟩
theorem allQ (hc : X.calm = true := by rfl) (h : X.K = K := by rfl) : CallR X (.builtin "all") (rAll K) := h ▸ cr_all hc
theorem anyQ (hc : X.calm = true := by rfl) (h : X.K = K := by rfl) : CallR X (.builtin "any") (rAny K) := h ▸ cr_any hc
theorem piL {tg l : Expr} {tl : TE} (hl : PE X l tl) (h : X.K = K := by rfl) : PI X tg l (iList K tl) := h ▸ pi_list hl
theorem piT {tg l : Expr} {tl : TE} (hl : PE X l tl) (h : X.K = K := by rfl) : PI X tg l (iTup K tl) := h ▸ pi_tup hl
theorem isiQ (h : X.K = K := by rfl) : CallR X (.builtin "isinstance") (rIsi K) := h ▸ call_isi
end

/-! ### comprehensions -/
def Gv (te : TE) (σ : L2.St) (H : Hp) (R : Hp → V → Prop) : Prop := ∀ Q : VK, (∀ r H', Same H H' → R H' r → Q r H') → te σ H Q
def Gt (tt : TT) (σ : L2.St) (H : Hp) (b : Bool) : Prop := ∀ Q : Bool → Hp → Prop, (∀ H', Same H H' → Q b H') → tt σ H Q
theorem gt_yes {σ : L2.St} {H : Hp} : Gt tYes σ H true := fun _ q => q H (Same.refl H)
section
variable {α β : Type} {J : It} {n : Nat} {G : Hp → Prop} {Y : Nat → Hp → V → Hp → Prop} {g : TG} {tt : TT} {te : TE} {vs : List Nat} {σ : L2.St} {H1 : Hp} {Q : VK}
/-- over anything that is walked; f: is the item kept, e: what comes of it; RB hangs on tuples alone -/
theorem lc_do (w : Walk J n G Y) (as : List α) (hn : as.length = n) (hs : n ≤ 100000) (f : α → Bool) (e : α → β) {RB : Hp → V → β → Prop} (mB : TM RB) (hG : ∀ H, Same H1 H → G H)
    (turn : ∀ i a x H2 H3, as[i]? = some a → Same H1 H2 → Y i H2 x H3 → Same H2 H3 ∧ ∀ Qg : L2.St → Hp → Prop,
      (∀ σ2 H4, Same H3 H4 → wipe σ2 vs = wipe σ vs → Gt tt σ2 H4 (f a) → (f a = true → ∀ H5, Same H4 H5 → Gv te σ2 H5 fun H6 y => RB H6 y (e a)) → Qg σ2 H4) → g x (wipe σ vs) H3 Qg)
    (hd : ∀ p ys H', H1 p = none → Same H1 H' → H' p = some (.lst ys) → P2 (RB H') ys ((as.filter f).map e) → Q (.ref p) H') :
    ∀ D, H1 D = none → ∃ W : Nat → Nat → Hp → Prop, (∃ m, W 0 m (upd H1 D (.lst []))) ∧ ∀ i m H, W i m H →
      (J.stop i H ∧ Q (.ref D) H) ∨ (J.go i H ∧ ∃ Nx : Hp → Prop, (∀ H', Nx H' → ∃ m', m' < m ∧ W (i + 1) m' H') ∧ ∀ x H', J.yld i H x H' → g x (wipe σ vs) H' fun σ2 H2 => wipe σ2 vs = wipe σ vs ∧ tt σ2 H2 fun b H3 =>
        if b = true then te σ2 H3 fun y H4 => ∃ acc, H4 D = some (.lst acc) ∧ acc.length < sizeLine ∧ Nx (upd H4 D (.lst (acc ++ [y]))) else Nx H3) := by
  intro D hD
  refine lc_it (Qd := fun H => Q (.ref D) H) w (fun i H => Same H1 H ∧ ∃ ys, H D = some (.lst ys) ∧ P2 (RB H) ys (((as.take i).filter f).map e))
    ⟨same_new hD _, [], upd_same, by simp; exact .nil⟩ (fun i H _ p => hG H p.1) ?_ ?_
  · rintro i x H H' hi ⟨s, ys, hy, r⟩ y
    obtain ⟨a, ha⟩ : ∃ a, as[i]? = some a := ⟨as[i]'(by omega), List.getElem?_eq_getElem (by omega)⟩
    have tk : as.take (i + 1) = as.take i ++ [a] := by rw [List.take_add_one, ha]; rfl
    obtain ⟨s1, k⟩ := turn i a x H H' ha s y
    refine k _ fun σ2 H4 s2 hw ht he => ⟨hw, ht _ fun H5 s3 => ?_⟩
    have s4 : Same H H5 := (s1.trans s2).trans s3
    cases hf : f a with
    | true =>
      refine iteT (he hf H5 s3 _ fun y H6 s5 hr => ?_)
      have d6 : H6 D = some (.lst ys) := s5 _ _ (s4 _ _ hy)
      have len : ys.length ≤ i := by
        rw [r.len, List.length_map]
        refine Nat.le_trans (List.length_filter_le _ _) ?_
        rw [List.length_take]; omega
      refine ⟨ys, d6, ?_, same_mut ((s.trans s4).trans s5) hD, ys ++ [y], upd_same, ?_⟩
      · have : (100000 : Nat) ≤ sizeLine := by decide
        omega
      · rw [tk, List.filter_append, List.map_append]
        have e1 : ([a].filter f).map e = [e a] := by rw [List.filter_cons, if_pos hf]; rfl
        rw [e1]
        exact (r.imp fun u b k => mB _ _ _ _ ((Same.tups (s4.trans s5)).trans (tups_lst d6)) k).app (.cons (mB _ _ _ _ (tups_lst d6) hr) .nil)
    | false =>
      refine iteF ⟨s.trans s4, ys, s4 _ _ hy, ?_⟩
      rw [tk, List.filter_append, List.map_append]
      have e1 : ([a].filter f).map e = [] := by rw [List.filter_cons, if_neg (by rw [hf]; decide)]; rfl
      rw [e1, List.append_nil]
      exact r.imp fun u b k => mB.same s4 k
  · rintro H ⟨s, ys, hy, r⟩
    rw [List.take_of_length_le (by omega)] at r
    exact hd D ys H hD s hy r
end
section
variable {α β : Type} {K : PySem.W.Frag} {tt : TT} {te tl : TE} {vs : List Nat} {σ : L2.St} {H : Hp} {Q : VK} {j : Nat} {RA : Hp → V → α → Prop} {RB : Hp → V → β → Prop}
def SqTV (K : PySem.W.Frag) (R : Hp → V → α → Prop) (H : Hp) (v : V) (as : List α) : Prop := ∃ p xs, v = .ref p ∧ SqT K H p xs ∧ P2 (R H) xs as
def SqLV (K : PySem.W.Frag) (R : Hp → V → α → Prop) (H : Hp) (v : V) (as : List α) : Prop := ∃ p xs, v = .ref p ∧ SqL K H p xs ∧ P2 (R H) xs as
theorem TupV.sq {H : Hp} {v : V} {as : List α} (h : TupV RA H v as) : SqTV K RA H v as := let ⟨p, xs, e, h, r⟩ := h; ⟨p, xs, e, SqT.of h, r⟩
theorem LstV.sq {H : Hp} {v : V} {as : List α} (h : LstV RA H v as) : SqLV K RA H v as := let ⟨p, xs, e, h, r⟩ := h; ⟨p, xs, e, SqL.of h, r⟩
/-- what a reading gives, whatever is wanted of it -/
theorem gv_var {i : Nat} {v : V} {R : Hp → V → Prop} (h : σ[i]? = some (some v)) (r : R H v) : Gv (tVar i) σ H R := fun _ q => ⟨v, h, q v H (Same.refl H) r⟩
/-- [e for x in a tuple if t]; [e for x in a list if t] -/
theorem r_lcT (f : α → Bool) (e : α → β) (Pa : List α → Prop) (mA : TM RA) (mB : TM RB) (hl : Gv tl σ H fun H1 v => ∃ as, Pa as ∧ SqTV K RA H1 v as) (hs : ∀ as, Pa as → as.length ≤ 100000)
    (hw : ∀ x, wipe ((wipe σ vs).set j (some x)) vs = wipe σ vs)
    (ht : ∀ as x c H2, Pa as → c ∈ as → Same H H2 → RA H2 x c → Gt tt ((wipe σ vs).set j (some x)) H2 (f c))
    (he : ∀ as x c H2, Pa as → c ∈ as → Same H H2 → RA H2 x c → f c = true → Gv te ((wipe σ vs).set j (some x)) H2 fun H3 y => RB H3 y (e c))
    (hd : ∀ as p ys H', Pa as → H p = none → Same H H' → H' p = some (.lst ys) → P2 (RB H') ys ((as.filter f).map e) → Q (.ref p) H') : tLc (iTup K tl) (gName j) tt te vs σ H Q := by
  refine hl _ fun v H1 s1 ⟨as, pa, a, xs, ev, hx, hr⟩ => ⟨a, ev, ⟨xs, hx⟩, ?_⟩
  refine lc_do (walk_tup (xs := xs)) as hr.len.symm (by rw [hr.len]; exact hs as pa) f e mB (fun H s => same_t s hx) (fun i c x H2 H3 hc s y => ?_) fun p ys H' hp s => hd as p ys H' pa (s1.free hp) (s1.trans s)
  obtain ⟨rfl, hi⟩ := y
  obtain ⟨b, hb, r⟩ := hr.get hi
  rw [hc] at hb
  cases hb
  have hm : c ∈ as := List.mem_of_getElem? hc
  exact ⟨Same.refl _, fun Qg k => k _ _ (Same.refl _) (hw x) (ht as x c _ pa hm (s1.trans s) (mA.same s r)) fun hf H5 s5 => he as x c H5 pa hm ((s1.trans s).trans s5) (mA.same (s.trans s5) r) hf⟩
theorem r_lcL (f : α → Bool) (e : α → β) (Pa : List α → Prop) (mA : TM RA) (mB : TM RB) (hl : Gv tl σ H fun H1 v => ∃ as, Pa as ∧ SqLV K RA H1 v as) (hs : ∀ as, Pa as → as.length ≤ 100000)
    (hw : ∀ x, wipe ((wipe σ vs).set j (some x)) vs = wipe σ vs)
    (ht : ∀ as x c H2, Pa as → c ∈ as → Same H H2 → RA H2 x c → Gt tt ((wipe σ vs).set j (some x)) H2 (f c))
    (he : ∀ as x c H2, Pa as → c ∈ as → Same H H2 → RA H2 x c → f c = true → Gv te ((wipe σ vs).set j (some x)) H2 fun H3 y => RB H3 y (e c))
    (hd : ∀ as p ys H', Pa as → H p = none → Same H H' → H' p = some (.lst ys) → P2 (RB H') ys ((as.filter f).map e) → Q (.ref p) H') : tLc (iList K tl) (gName j) tt te vs σ H Q := by
  refine hl _ fun v H1 s1 ⟨as, pa, a, xs, ev, hx, hr⟩ => ⟨a, ev, ⟨xs, hx⟩, ?_⟩
  refine lc_do (walk_list (xs := xs)) as hr.len.symm (by rw [hr.len]; exact hs as pa) f e mB (fun H s => s.seq hx) (fun i c x H2 H3 hc s y => ?_) fun p ys H' hp s => hd as p ys H' pa (s1.free hp) (s1.trans s)
  obtain ⟨rfl, hi⟩ := y
  obtain ⟨b, hb, r⟩ := hr.get hi
  rw [hc] at hb
  cases hb
  have hm : c ∈ as := List.mem_of_getElem? hc
  exact ⟨Same.refl _, fun Qg k => k _ _ (Same.refl _) (hw x) (ht as x c _ pa hm (s1.trans s) (mA.same s r)) fun hf H5 s5 => he as x c H5 pa hm ((s1.trans s).trans s5) (mA.same (s.trans s5) r) hf⟩
theorem filt_true {γ : Type} (l : List γ) : l.filter (fun _ => true) = l := List.filter_eq_self.mpr fun _ _ => rfl
theorem r_lcT0 (e : α → β) (Pa : List α → Prop) (mA : TM RA) (mB : TM RB) (hl : Gv tl σ H fun H1 v => ∃ as, Pa as ∧ SqTV K RA H1 v as) (hs : ∀ as, Pa as → as.length ≤ 100000)
    (hw : ∀ x, wipe ((wipe σ vs).set j (some x)) vs = wipe σ vs)
    (he : ∀ as x c H2, Pa as → c ∈ as → Same H H2 → RA H2 x c → Gv te ((wipe σ vs).set j (some x)) H2 fun H3 y => RB H3 y (e c))
    (hd : ∀ as p ys H', Pa as → H p = none → Same H H' → H' p = some (.lst ys) → P2 (RB H') ys (as.map e) → Q (.ref p) H') : tLc (iTup K tl) (gName j) tYes te vs σ H Q :=
  r_lcT (fun _ => true) e Pa mA mB hl hs hw (fun _ _ _ _ _ _ _ _ => gt_yes) (fun as x c H2 pa hc s r _ => he as x c H2 pa hc s r) fun as p ys H' pa hp s h r => hd as p ys H' pa hp s h (by rw [filt_true] at r; exact r)
theorem r_lcL0 (e : α → β) (Pa : List α → Prop) (mA : TM RA) (mB : TM RB) (hl : Gv tl σ H fun H1 v => ∃ as, Pa as ∧ SqLV K RA H1 v as) (hs : ∀ as, Pa as → as.length ≤ 100000)
    (hw : ∀ x, wipe ((wipe σ vs).set j (some x)) vs = wipe σ vs)
    (he : ∀ as x c H2, Pa as → c ∈ as → Same H H2 → RA H2 x c → Gv te ((wipe σ vs).set j (some x)) H2 fun H3 y => RB H3 y (e c))
    (hd : ∀ as p ys H', Pa as → H p = none → Same H H' → H' p = some (.lst ys) → P2 (RB H') ys (as.map e) → Q (.ref p) H') : tLc (iList K tl) (gName j) tYes te vs σ H Q :=
  r_lcL (fun _ => true) e Pa mA mB hl hs hw (fun _ _ _ _ _ _ _ _ => gt_yes) (fun as x c H2 pa hc s r _ => he as x c H2 pa hc s r) fun as p ys H' pa hp s h r => hd as p ys H' pa hp s h (by rw [filt_true] at r; exact r)
/-- a list of bools -/
def BlV (_ : Hp) (v : V) (b : Bool) : Prop := v = .bl b
theorem tm_bl : TM BlV := fun _ _ _ _ _ h => h
theorem bls {H : Hp} {ys : List V} {bs : List Bool} (h : P2 (BlV H) ys bs) : ys = bs.map V.bl := by
  induction h with
  | nil => rfl
  | cons r _ ih => rw [ih, r]; rfl
end
end Jw
end

section
set_option Elab.async false
set_option linter.all false
set_option maxRecDepth 100000
set_option maxHeartbeats 4000000
namespace Jw
open PySem PySem.Spec PyProof.Rows L2 Jt JH
/-! ### the defs: where they stand, how they are called -/
abbrev FnD (K : PySem.W.Frag) (x : Str) (st : Stmt) (f : Addr) (fd : FuncData) : Prop := FunD K x x (defArgs st) (defBody st) (defScope st) [] [] f fd
/-- the built-ins' names are free -/
structure Bi (mg : Str → Option Value) : Prop where
  abs : mg "abs" = none
  all : mg "all" = none
  any : mg "any" = none
  enumerate : mg "enumerate" = none
  int : mg "int" = none
  isinstance : mg "isinstance" = none
  len : mg "len" = none
  list : mg "list" = none
  min : mg "min" = none
  range : mg "range" = none
  set : mg "set" = none
  sorted : mg "sorted" = none
  str : mg "str" = none
  tuple : mg "tuple" = none
section
variable (P : Program) (w : World) (K : PySem.W.Frag) (mg : Str → Option Value) (base : Heap)
/-- a def that may be called by its name -/
structure Cal (k : Nat) (x : Str) (ps : List Str) (sp : Sp) : Prop where
  ex : ∃ f fd, FnOk P w K mg base CX0 k f fd ps sp ∧ mg x = some (.ref f) ∧ PySem.W.keepIn K (.ref f) = true ∧ Binds K fd ps []
end
section
variable {X : Cx} {k : Nat} {ps : List Str} {sp : Sp} {x : Str} {p pos : Pos} {e : Expr} {es : List Expr} {t : TA}
theorem pe_cal (F : Cal X.prog X.w X.K X.mg X.base k x ps sp) (hr : Room k X.A) (ha : PA X (e :: es) t) (hg : Gl X x := by rfl) (hdb : (x == ("__debug__" : Str)) = false := by decide)
    (he : starEach (e :: es) X.env = (false, eval e X.env) :: starEach es X.env := by rfl) (hpl : (backTo pos (starEach es X.env)).any (·.1) = false := by rfl) : PE X (.Call (.Name x p) (e :: es) [] pos) (tCall sp [] E0 t) := by
  obtain ⟨f, fd, G, m, kp, b⟩ := F.ex
  exact pe_call G hr hg m kp b .nil pass0 ha hdb he hpl
theorem cal_mk {P : Program} {w : World} {K : PySem.W.Frag} {mg : Str → Option Value} {base : Heap} {f : Addr} {fd : FuncData} {st : Stmt} (F : FnD K x st f fd) (G : FnOk P w K mg base CX0 k f fd ps sp) (m : mg x = some (.ref f))
    (h : ∀ (kV doc pm : Value) (an : Option Addr) (cdv ct : Value) (us : List Value), us.length = ps.length → bindArgs (PySem.W.fnOf x x (defArgs st) (defBody st) (defScope st) .none kV doc pm an cdv ct) ⟨us, []⟩ = pure (ps.zip us)) : Cal P w K mg base k x ps sp :=
  ⟨f, fd, G, m, F.kp, F.bindsN h⟩
end
/-- one promise for every choice -/
theorem FnOk.all {ι : Sort _} {P : Program} {w : World} {K : PySem.W.Frag} {mg : Str → Option Value} {base : Heap} {CX : CXT} {k : Nat} {f : Addr} {fd : FuncData} {ps : List Str} {sp : ι → Sp} (h : ∀ i, FnOk P w K mg base CX k f fd ps (sp i)) :
    FnOk P w K mg base CX k f fd ps fun vs H Q E => ∃ i, sp i vs H Q E :=
  ⟨fun vs H Q E ⟨i, z⟩ => (h i).len vs H Q E z, fun A outer s H args us vs Q E hr he hb hv ⟨i, z⟩ => (h i).run A outer s H args us vs Q E hr he hb hv z⟩
/-! ### names -/
/-- the names 0, 1, .. below n: small letters, rising -/
structure Nm (nm : Nat → Str) (n : Nat) : Prop where
  lt : ∀ i j, i < j → j < n → (nm i).cps.toList < (nm j).cps.toList
  len : ∀ i, i < n → 1 ≤ (nm i).length ∧ (nm i).length ≤ 8
  low : ∀ i, i < n → ∀ c ∈ (nm i).cps.toList, 97 ≤ c ∧ c ≤ 122
  few : n ≤ 5
section
variable {nm : Nat → Str} {n : Nat}
theorem Nm.ne (N : Nm nm n) {i j : Nat} (hi : i < n) (hj : j < n) (h : i ≠ j) : nm i ≠ nm j := fun e => by
  rcases Nat.lt_or_gt_of_ne h with k | k
  · have := N.lt i j k hj
    rw [e] at this
    exact List.lt_irrefl _ this
  · have := N.lt j i k hi
    rw [e] at this
    exact List.lt_irrefl _ this
theorem Nm.inj (N : Nm nm n) {i j : Nat} (hi : i < n) (hj : j < n) (h : nm i = nm j) : i = j := Classical.byContradiction fun k => N.ne hi hj k h
theorem eqV_sv (N : Nm nm n) {i j : Nat} (hi : i < n) (hj : j < n) : eqV (sv nm i) (sv nm j) = decide (i = j) := by
  show (nm i == nm j) = decide (i = j)
  by_cases e : i = j
  · subst e; simp
  · rw [decide_eq_false e]
    exact beq_eq_false_iff_ne.mpr (N.ne hi hj e)
theorem inV_sv (N : Nm nm n) {i : Nat} (hi : i < n) : ∀ {l : List Nat}, (∀ x ∈ l, x < n) → inV (sv nm i) (l.map (sv nm)) = decide (i ∈ l)
  | [], _ => rfl
  | j :: l, h => by
    show (eqV (sv nm j) (sv nm i) || inV (sv nm i) (l.map (sv nm))) = _
    rw [eqV_sv N (h j List.mem_cons_self) hi, inV_sv N hi fun x hx => h x (List.mem_cons_of_mem _ hx)]
    by_cases e : j = i
    · subst e; simp
    · have : ¬ i = j := fun z => e z.symm
      simp [e, this]
theorem flat_svs {l : List Nat} : (l.map (sv nm)).all flatV = true := by
  rw [List.all_eq_true]
  intro x hx
  obtain ⟨i, _, rfl⟩ := List.mem_map.mp hx
  rfl
end
/-! ### has_all -/
def spHasAll (nm : Nat → Str) (n : Nat) : Sp := fun vs H Q _ => ∃ v u l m, vs = [v, u] ∧ LotV nm H v l ∧ LotV nm H u m ∧ (∀ x ∈ l, x < n) ∧ (∀ x ∈ m, x < n) ∧ l.length ≤ 100 ∧ m.length ≤ 100 ∧ ∀ H', Same H H' → Q (.bl (m.all fun x => decide (x ∈ l))) H'
section
variable {P : Program} {w : World} {K : PySem.W.Frag} {mg : Str → Option Value} {base : Heap} {f : Addr} {fd : FuncData} {nm : Nat → Str} {n : Nat}
theorem sc_has_all : FnScope ["lot", "names", "name"] ["lot", "names"] (defScope s_has_all) := ⟨rfl, rfl, rfl, by decide +kernel, rfl, by decide +kernel, by decide +kernel⟩
theorem ok_has_all (F : FnD K "has_all" s_has_all f fd) (B : Bi mg) (N : Nm nm n) : FnOk P w K mg base CX0 1 f fd ["lot", "names"] (spHasAll nm n) := by
  refine F.ok sc_has_all (fun vs H Q E h => ?_) (fun cdv A outer s H vs Q E hr h => ?_)
  · obtain ⟨v, u, l, m, rfl, _⟩ := h
    rfl
  · obtain ⟨v, u, l, m, rfl, hv, hu, hl, hm, zl, zm, q⟩ := h
    refine ⟨_, PSs.nox (pss_one (ps_ret (pe_callB (allQ K) (by rfl) B.all boot_all (pa_cons (pe_lc (own := [("name", 2)]) (g := gName 2) rfl sc_has_all.nd (piT K (pv 1))
      (blkOk_by (N := ["lot", "names", "name"]) (sc := defScope s_has_all) (by decide +kernel)) (fun _ _ _ _ _ => pg_name (i := 2) sc_has_all.nd rfl (Or.inl rfl)) (fun _ _ _ _ _ => pts_nil)
      (fun _ _ _ _ _ => pe_cmpR (inS K) (pv 2) (pv 0) (by rfl))) pa_nil)))), ?_⟩
    obtain ⟨a, rfl, ha⟩ := hv
    obtain ⟨p, vs, rfl, hp, r⟩ := lot_tup.mp hu
    refine r_ret (r_b1 (r_lcT0 (fun x => decide (x ∈ l)) (· = m) tm_nm tm_bl (gv_var rfl ⟨m, rfl, p, vs, rfl, SqT.of hp, r⟩) (fun _ e => by rw [e]; omega) (fun _ => rfl) ?_ ?_))
    · rintro _ x c H2 rfl hc s2 hx Q' k
      rw [hx]
      refine ⟨_, rfl, _, rfl, a, _, rfl, .inr (SqT.of (s2 _ _ ha)), rfl, flat_svs, ?_⟩
      rw [if_neg Bool.false_ne_true, inV_sv N (hm c hc) hl]
      exact k _ _ (Same.refl _) rfl
    · rintro _ D ys H' rfl hD s2 hd hr
      rw [bls hr] at hd
      refine ⟨D, _, rfl, SqL.of hd, ?_⟩
      rw [List.all_map]
      exact q _ s2
end
end Jw
end

section
set_option Elab.async false
set_option linter.all false
set_option maxRecDepth 100000
set_option maxHeartbeats 4000000
/-! Sorting, the least by len: rules for data of any shape. -/
namespace Jw
open PySem PySem.Spec PyProof.Rows L2 Jt JH

/-! ### sorted(..) of whatever is collected as alike data -/
/-- what stood in h stands in h1 -/
def Kp (h h1 : Heap) : Prop := ∀ b o, h.get? b = some o → h1.get? b = some o
/-- collecting the object at a gives values that stand for one of the lists Pb -/
def Collects {β : Type} (prog : Program) (w : World) (A : Around) (s : Shared) (a : Addr) (R : Value → β → Prop) (Pb : List β → Prop) : Prop :=
  ∀ (E : Value → Shared → Prop) (Q : List Value → Shared → Prop), (∀ s1 vs bs, Kp s.heap s1.heap → s1.gens = s.gens → s1.os = s.os → Pb bs → PySem.W.EachIs R vs bs → Q vs s1) → wpAny (model prog w) A (collect (.ref a)) Q E s
section
variable {β : Type} {prog : Program} {w : World} {A : Around} {s : Shared} {a : Addr} {R : Value → β → Prop} {Pb : List β → Prop}
theorem collects_seq {its : Array Value} {bs : List β} (at_ : s.heap.IsList a its ∨ s.heap.IsTuple a its) (ea : PySem.W.EachIs R its.toList bs) (hz : its.size ≤ sizeLine) : Collects prog w A s a R (· = bs) := fun E Q q => by
  rcases at_ with ⟨o, ho, hc, n, hd⟩ | ⟨o, ho, hc, n, hd⟩
  · exact wpAny_collect_seq a (.inl rfl) ho hc hd (fun h1 k => q _ _ bs k rfl rfl rfl ea) hz
  · exact wpAny_collect_seq a (.inr rfl) ho hc hd (fun h1 k => q _ _ bs k rfl rfl rfl ea) hz
theorem sort_any {enc : β → PyData} {E : Value → Shared → Prop} {Q : Value → Shared → Prop} (col : Collects prog w A.in1 s a R Pb) (rd : ∀ v b, R v b → ∃ as, Reads s.heap v (enc b) as)
    (ok : ∀ bs, Pb bs → PySem.W.AllAlike (bs.map enc) ∧ PySem.W.Sortable (bs.map enc) ∧ bs.length ≤ sizeLine ∧ ∀ b ∈ bs, A.units + 2 + (enc b).depth < cLine)
    (q : ∀ (s1 s2 : Shared) D (out : List Value) c bs zs, Kp s.heap s1.heap → Kp s1.heap s2.heap → s2.gens = s.gens → s2.os = s.os → s1.heap.objs.size ≤ D → s2.heap.get? D = some (seqObj "list" out.toArray c) → Pb bs → zs.Perm bs → zs.Pairwise (fun x y => PySem.W.dataLt (enc y) (enc x) = false) →
      PySem.W.EachIs R out zs → Q (.ref D) s2) : wpAny (model prog w) A (call (.builtin "sorted") [.ref a]) Q E s := by
  refine Calls.call_function_entry kind_sorted plain_sorted entry_sorted (args_sorted1 (.ref a)) ?_
  unfold Builtin.«sorted»
  refine wpAny_bind (m := checkCount "sorted" 1 1 _) (wpAny_pure (wpAny_bind (col _ _ fun s1 vs bs k1 g1 o1 pb ea => ?_)))
  obtain ⟨al, so, z, dep⟩ := ok bs pb
  have len := ea.length
  refine wpAny_bind (wpAny_newList ?_ (by omega))
  have at_D : (s1.heap.push (seqObj "list" vs.toArray 0)).get? s1.heap.objs.size = some (seqObj "list" vs.toArray 0) := Heap.get?_push_size _ rfl
  have old : Kp s.heap (PySem.W.sortingHeap (s1.heap.push (seqObj "list" vs.toArray 0)) s1.heap.objs.size vs) := fun b o e =>
    have e1 := k1 b o e
    PySem.W.sortingHeap_old (Nat.ne_of_lt (Heap.lt_size e1)) (Heap.get?_push_of_some _ e1)
  have er : PySem.W.EachIs (fun v b => ∃ as, Reads (PySem.W.sortingHeap (s1.heap.push (seqObj "list" vs.toArray 0)) s1.heap.objs.size vs) v (enc b) as) vs bs := ea.mono fun v b r => (rd v b r).imp fun _ r => PyProof.Rows.Reads.keeps old r
  refine wpAny_bind (wpAny_holding (wpAny_call_entry slot_list_sort ⟨_, at_D, rfl⟩ entry_list_sort (PySem.W.list_sort_vals (s := { s1 with heap := s1.heap.push (seqObj "list" vs.toArray 0) }) at_D
    (PySem.W.SortsAt.data (PySem.W.each_map (R := fun v d => ∃ as, Reads (PySem.W.sortingHeap (s1.heap.push (seqObj "list" vs.toArray 0)) s1.heap.objs.size vs) v d as) enc er) al so fun d hd => ?_) (by omega) ⟨_, rfl, ?_⟩) (args_list_sort _)))
  · obtain ⟨b, hb, rfl⟩ := List.mem_map.mp hd
    exact dep b hb
  · have pw := PySem.W.sort_pairwise (PySem.W.sortLe_total (PyProof.Rows.listOrd PyProof.Rows.itemOrd) false (fun b : β => PySem.W.keyToks (enc b))) bs
    obtain ⟨c, at_c⟩ := sortedHeap_at (out := (PySem.W.sortVals (PySem.W.dataKind (PySem.W.sortingHeap (s1.heap.push (seqObj "list" vs.toArray 0)) s1.heap.objs.size vs) (bs.map enc)) false vs vs).toArray) at_D
    refine wpAny_pure ⟨_, rfl, q s1 _ s1.heap.objs.size _ c bs _ k1 (fun b o e => ?_) g1 o1 (Nat.le_refl _) at_c pb (List.mergeSort_perm bs _) (pw.imp fun {x y} e => ?_) (PySem.W.sortVals_data false ea er al)⟩
    · have lt := Heap.lt_size e
      exact (sortedHeap_old (Nat.ne_of_lt lt) (Nat.lt_trans lt (by rw [size_push']; exact Nat.lt_succ_self _))).trans (Heap.get?_push_of_some _ e)
    · have e1 : (!PySem.W.dataLt (enc y) (enc x)) = true := e
      simpa using e1
end
section
variable {X : Cx} (K : PySem.W.Frag) {pins : List (Addr × Obj)} {σ : L2.St} {H : Hp} {s : Shared}
/-- the sorted list, tracked -/
theorem ep_sorted {Q : VK} {ys : List V} {s1 s2 : Shared} {D : Addr} {out : List Value} {c : Nat} (I : Inv X pins σ H s) (k1 : Kp s.heap s1.heap) (k2 : Kp s1.heap s2.heap) (hg : s2.gens = s.gens) (ho : s2.os = s.os) (hD : s1.heap.objs.size ≤ D) (at_ : s2.heap.get? D = some (seqObj "list" out.toArray c)) (hz : ys.length ≤ sizeLine)
    (rv : Vals ys out) (q : H D = none → Q (.ref D) (upd H D (.lst ys))) : EP X pins σ Q (.ref D) s2 := by
  have I1 : Inv X pins σ H { s with heap := s1.heap, toks := s.toks } := I.kept k1
  have fresh : H D = none := I1.hok.fresh hD
  have J : Inv X pins σ (upd H D (.lst ys)) { s with heap := s2.heap, gens := s2.gens, drawn := s2.drawn, toks := s2.toks } :=
    Inv.call (s := { s with heap := s1.heap, toks := s.toks }) (ch := []) I1 (Un.laid k2 hD fresh) (I1.hok.laid k2 hD ⟨hz, out, c, rv, at_⟩) (by rw [hg]; exact I.bare) (fun _ z => nomatch z)
  obtain ⟨h2, g2, d2, t2, o2⟩ := s2
  cases (show o2 = s.os from ho)
  exact ⟨.ref D, _, J, rfl, q fresh⟩
end
/-- sorted(xs) of alike data: zs the values and their data, in their order -/
def SortEnd (H : Hp) (xs : List V) (ds : List PyData) (Q : VK) : Prop := ∀ (p : Addr) (zs : List (V × PyData)), zs.Perm (xs.zip ds) → zs.Pairwise (fun x y => PySem.W.dataLt y.2 x.2 = false) → H p = none → Q (.ref p) (upd H p (.lst (zs.map (·.1))))
def rSortQ (K : PySem.W.Frag) : List V → Hp → VK → Prop := fun vs H Q => ∃ (a : Addr) (xs : List V) (ds : List PyData), vs = [.ref a] ∧ (SqL K H a xs ∨ SqT K H a xs) ∧ DpAll K H xs ds ∧ PySem.W.AllAlike ds ∧ PySem.W.Sortable ds ∧ (∀ d ∈ ds, d.depth ≤ 60) ∧ SortEnd H xs ds Q
section
variable {X : Cx} (K : PySem.W.Frag)
theorem dpAll_len {H : Hp} : ∀ {ds : List PyData} {xs : List V}, DpAll K H xs ds → xs.length = ds.length
  | [], _, h => by cases h; rfl
  | d :: ds, _, h => by cases h with | cons h1 h2 => rw [List.length_cons, List.length_cons, dpAll_len h2]
theorem each_rel {pins : List (Addr × Obj)} {σ : L2.St} {H : Hp} {s : Shared} (I : Inv X pins σ H s) : ∀ {ds : List PyData} {xs : List V} {us : List Value}, DpAll X.K H xs ds → Vals xs us → PySem.W.EachIs (fun u (z : V × PyData) => RelV z.1 u ∧ ∃ as, Reads s.heap u z.2 as) us (xs.zip ds)
  | [], _, _, h, r => by cases h; cases r; exact .nil
  | d :: ds, _, _, h, r => by
    cases h with
    | cons h1 h2 =>
      cases r with
      | cons r1 r2 => exact .cons ⟨r1, Dp.reads I _ _ _ h1 r1⟩ (each_rel I h2 r2)
theorem vals_each : ∀ {out : List Value} {zs : List (V × PyData)}, PySem.W.EachIs (fun u (z : V × PyData) => RelV z.1 u) out zs → Vals (zs.map (·.1)) out
  | _, _, .nil => .nil
  | _, _, .cons h t => .cons h (vals_each t)
theorem sortQ (hu : X.A.units + 64 < cLine) (h : X.K = K := by rfl) : CallR X (.builtin "sorted") (rSortQ K) := by
  subst h
  rintro pins s σ H vs us Q I r ⟨a, xs, ds, rfl, sq, dp, al, so, dep, q⟩
  rw [Vals.ref1 r]
  have len := dpAll_len X.K dp
  have snd : (xs.zip ds).map (·.2) = ds := List.map_snd_zip (by omega)
  have seq : ∃ its : List Value, Vals xs its ∧ (s.heap.IsList a its.toArray ∨ s.heap.IsTuple a its.toArray) ∧ xs.length ≤ sizeLine := by
    rcases sq with sq | sq
    · obtain ⟨its, rv, at_, hz⟩ := I.list sq
      exact ⟨its, rv, .inl at_.isList, hz⟩
    · obtain ⟨its, rv, at_, hz⟩ := I.tuple sq
      exact ⟨its, rv, .inr at_, hz⟩
  obtain ⟨its, rv, at_, hz⟩ := seq
  have hz2 : (xs.zip ds).length ≤ sizeLine := by rw [List.length_zip]; omega
  refine sort_any (enc := fun z : V × PyData => z.2) (collects_seq at_ (each_rel I dp rv) (by rw [List.size_toArray, ← rv.length]; exact hz)) (fun _ _ z => z.2) ?_ fun s1 s2 D out c bs zs k1 k2 g o hD at_D e pm pw ea => ?_
  · rintro bs rfl
    refine ⟨by rw [snd]; exact al, by rw [snd]; exact so, hz2, fun b hb => ?_⟩
    have := dep b.2 (List.of_mem_zip hb).2
    omega
  · subst e
    exact ep_sorted I k1 k2 g o hD at_D (by rw [List.length_map, pm.length_eq]; exact hz2) (vals_each (ea.mono fun _ _ z => z.1)) fun fr => q D zs pm pw fr
end
end Jw
namespace Jw
open PySem PySem.Spec PyProof.Rows L2 Jt JH
/-! ### key=len -/
section
variable {X : Cx} {x : Str} {p p2 kpos pos : Pos} {e : Expr} {es : List Expr} {t : TA} {id : String} {r : List V → Hp → VK → Prop}
def CallLen (X : Cx) (id : String) (r : List V → Hp → VK → Prop) : Prop :=
  ∀ (pins : List (Addr × Obj)) (s : Shared) (σ : L2.St) (H : Hp) (xs : List V) (us : List Value) (Q : VK), Inv X pins σ H s → Vals xs us → r xs H Q → wpAny (model X.prog X.w) X.A (call (.builtin id) us [(Str.ofString "key", .builtin "len")]) (EP X pins σ Q) X.xe s
theorem pe_keyLen (hc : CallLen X id r) (hg : Gl X x) (hm : X.mg x = none) (hv : bootBuiltins x = some (.builtin id)) (hgl : Gl X "len") (hml : X.mg "len" = none) (ha : PA X (e :: es) t) (hn : x ≠ "__name__" := by decide) (hdb : (x == ("__debug__" : Str)) = false := by decide)
    (he : backTo pos (starEach (e :: es) X.env) = (false, eval e X.env) :: backTo pos (starEach es X.env) := by rfl) (hpl : (backTo pos (starEach (e :: es) X.env)).any (·.1) = false := by rfl)
    (hall : (backToKw pos (keywordEach [⟨some "key", .Name "len" p2, kpos⟩] X.env)).all (·.1.isSome) = true := by rfl) (hnone : (backToKw pos (keywordEach [⟨some "key", .Name "len" p2, kpos⟩] X.env)).any (·.1.isNone) = false := by rfl)
    (hks : (backToKw pos (keywordEach [⟨some "key", .Name "len" p2, kpos⟩] X.env)).filterMap (·.1) = [Str.ofString "key"] := by rfl) :
    PE X (.Call (.Name x p) (e :: es) [⟨some "key", .Name "len" p2, kpos⟩] pos) (tCB r t) := by
  refine ⟨fun pins s σ H Q I h => ?_⟩
  refine wpAny_Call_Name_kw (ld_blt I hg hm hv ?_ hn hdb)
  refine PyProof.Rows.callWith_kw (thn (ha.run pos pins s σ H _ I h) fun us s1 ⟨vs, H1, I1, r1, q1⟩ => ?_) he hpl hall hnone
  show wpAny _ _ (evalAll ((do let v ← eval (.Name "len" p2) X.env; standAt pos; pure v) :: [])) _ _ s1
  refine wpAny_evalAll_cons (wpAny_bind (ld_blt I1 hgl hml PySem.boot_len (wpAny_bind (wpAny_standAt (wpAny_pure (wpAny_evalAll_nil ?_)))) (by decide) (by decide)))
  rw [hks]
  exact hc pins s1 σ H1 vs us Q I1 r1 q1
end
def TLen (K : PySem.W.Frag) (H : Hp) (v : V) (n : Nat) : Prop := ∃ p ys, v = .ref p ∧ SqT K H p ys ∧ ys.length = n
def rSortLen (K : PySem.W.Frag) : List V → Hp → VK → Prop := fun vs H Q => ∃ (a : Addr) (xs : List V) (ns : List Nat), vs = [.ref a] ∧ SqL K H a xs ∧ P2 (TLen K H) xs ns ∧
  ∀ (p : Addr) (zs : List (V × Nat)), zs.Perm (xs.zip ns) → zs.Pairwise (fun x y => x.2 ≤ y.2) → H p = none → Q (.ref p) (upd H p (.lst (zs.map (·.1))))
def rMinLen (K : PySem.W.Frag) : List V → Hp → VK → Prop := fun vs H Q => ∃ (a : Addr) (xs : List V) (ns : List Nat), vs = [.ref a] ∧ SqL K H a xs ∧ P2 (TLen K H) xs ns ∧ xs ≠ [] ∧
  ∀ (i : Nat) (x : V) (n : Nat), xs[i]? = some x → ns[i]? = some n → (∀ m ∈ ns, n ≤ m) → Q x H
section
variable {X : Cx} (K : PySem.W.Frag)
theorem each_len {pins : List (Addr × Obj)} {σ : L2.St} {H : Hp} {s : Shared} (I : Inv X pins σ H s) : ∀ {xs : List V} {ns : List Nat} {us : List Value}, P2 (TLen X.K H) xs ns → Vals xs us →
    PySem.W.EachIs (fun u (z : V × Nat) => RelV z.1 u ∧ ∃ p its, u = .ref p ∧ IsTup s.heap p its ∧ its.size = z.2 ∧ its.size ≤ sizeLine) us (xs.zip ns)
  | _, _, _, .nil, r => by cases r; exact .nil
  | _, _, _, .cons h1 h2, r => by
    cases r with
    | cons r1 r2 =>
      refine .cons ⟨r1, ?_⟩ (each_len I h2 r2)
      obtain ⟨p, ys, rfl, hs, hl⟩ := h1
      cases r1
      obtain ⟨its, rv, ht, hz⟩ := I.tuple hs
      have := rv.length
      exact ⟨p, _, rfl, ht, by simp; omega, by simp; omega⟩
theorem vals_eachN : ∀ {out : List Value} {zs : List (V × Nat)}, PySem.W.EachIs (fun u (z : V × Nat) => RelV z.1 u) out zs → Vals (zs.map (·.1)) out
  | _, _, .nil => .nil
  | _, _, .cons h t => .cons h (vals_eachN t)
theorem sortLenQ (hu : X.A.units + 64 < cLine) (h : X.K = K := by rfl) : CallLen X "sorted" (rSortLen K) := by
  subst h
  intro pins s σ H vs us Q I r h
  obtain ⟨a, xs, ns, rfl, hs, hd, q⟩ := h
  rw [Vals.ref1 r]
  have hsl := sizeLine_eq
  have hlen := hd.len
  obtain ⟨its, rv, hl, hz⟩ := I.list hs
  have er := each_len I hd rv
  refine PySem.W.sorted_key_data (R := fun u (z : V × Nat) => RelV z.1 u ∧ ∃ p its, u = .ref p ∧ IsTup s.heap p its ∧ its.size = z.2 ∧ its.size ≤ sizeLine) (f := .builtin "len") (b := false) (fun z : V × Nat => .int z.2) hl.isList er
    (PySem.W.AllAlike.of fun _ _ => by simp [PySem.W.alike]) (PySem.W.Sortable.others fun _ => ⟨by simp, by simp⟩) (by rw [List.length_zip]; omega) (fun _ _ => by simp only [PyData.depth]; omega)
    (ksk_s1 _ _) (fun _ => ksk_l1 _ _) (fun _ => ksk_t4 _ _) (fun v z ⟨_, p, its2, e1, e2, e3, e4⟩ _ h tk hk => ?_) fun out c h' tk hk hn hD hol hea => ?_
  · subst e1
    have e2' : IsTup h p its2 := let ⟨o, ho, r⟩ := e2; ⟨o, hk _ _ ho, r⟩
    refine len_tuple (s := { s with heap := h, toks := tk }) e2' (by omega) ?_
    exact ⟨h, _, rfl, fun _ _ e => e, by rw [e3]; exact Reads.int _ _⟩
  · have pm := List.mergeSort_perm (xs.zip ns) (PySem.W.dataLe false (fun z : V × Nat => .int z.2))
    have hl2 : (((xs.zip ns).mergeSort (PySem.W.dataLe false (fun z : V × Nat => .int z.2))).map (·.1)).length ≤ sizeLine := by rw [List.length_map, pm.length_eq, List.length_zip]; omega
    refine ⟨.ref _, upd H (s.heap.objs.size + 1) (.lst (((xs.zip ns).mergeSort (PySem.W.dataLe false (fun z : V × Nat => .int z.2))).map (·.1))), I.laid (t' := tk) hk (Nat.le_succ _)
      ⟨hl2, out, c, vals_eachN (hea.mono fun _ _ z => z.1), hD⟩, rfl, q _ _ pm ?_ (I.hok.fresh (Nat.le_succ _))⟩
    have pw := PySem.W.sort_pairwise (PySem.W.sortLe_total (PyProof.Rows.listOrd PyProof.Rows.itemOrd) false (fun z : V × Nat => PySem.W.keyToks (.int z.2))) (xs.zip ns)
    refine List.Pairwise.imp (fun {x y} e => ?_) pw
    have e' : (!PySem.W.dataLt (.int y.2) (.int x.2)) = true := e
    rw [PySem.W.dataLt_int] at e'
    have : ¬ ((y.2 : Int) < x.2) := by simpa using e'
    omega
theorem minLenQ (hc : X.calm = true) (h : X.K = K := by rfl) : CallLen X "min" (rMinLen K) := by
  subst h
  intro pins s σ H vs us Q I r h
  obtain ⟨a, xs, ns, rfl, hs, hd, hne, q⟩ := h
  rw [Vals.ref1 r]
  have hsl := sizeLine_eq
  have hlen := hd.len
  obtain ⟨its, rv, hl, hz⟩ := I.list hs
  have hil := rv.length
  have er := each_len I hd rv
  have hpos : 0 < xs.length := List.length_pos_iff.mpr hne
  have at_ : ∀ (i : Nat) (v : Value), its.toArray[i]? = some v → ∃ (x : V) (n : Nat) (p : Addr) (its2 : Array Value), xs[i]? = some x ∧ ns[i]? = some n ∧ RelV x v ∧ v = .ref p ∧ IsTup s.heap p its2 ∧ its2.size = n ∧ its2.size ≤ sizeLine := by
    intro i v hv
    have hv' : its[i]? = some v := by simpa using hv
    have hi := (List.getElem?_eq_some_iff.mp hv').1
    obtain ⟨x, hx⟩ : ∃ x, xs[i]? = some x := ⟨_, List.getElem?_eq_getElem (by omega)⟩
    obtain ⟨n, hn⟩ : ∃ n, ns[i]? = some n := ⟨_, List.getElem?_eq_getElem (by omega)⟩
    have hz : (v, (x, n)) ∈ its.zip (xs.zip ns) := List.mem_of_getElem? (i := i) (by rw [List.getElem?_zip_eq_some]; exact ⟨hv', by rw [List.getElem?_zip_eq_some]; exact ⟨hx, hn⟩⟩)
    obtain ⟨r1, p, its2, e1, e2, e3, e4⟩ := er.zip _ hz
    exact ⟨x, n, p, its2, hx, hn, r1, e1, e2, e3, e4⟩
  refine call_min_walkKB (PySem.W.iter_listW (A := X.A.in1) (I.ok.hd hc) hl.isList fun s₂ e W st hfp hw hk => ?_)
  subst e
  refine ⟨_, _, _, _, _, _, _, fun s' => ∃ h' tk, s' = { s with heap := h', toks := tk } ∧ ∀ b o, s.heap.get? b = some o → h'.get? b = some o, fun i k _ => ∃ t, k = .int (ns.getD i 0 : Nat) t, fun i j => decide ((ns.getD i 0 : Int) < ns.getD j 0),
    rfl, W, st, hfp, by simp; omega, ⟨?_, ?_, ?_, ?_⟩, ⟨_, _, rfl, hk⟩, ?_⟩
  · rintro s1 s' ⟨h1, tk1, rfl, k1⟩ m
    obtain ⟨g2, d2, os2, gens2⟩ : s'.gens = s.gens ∧ s'.drawn = s.drawn ∧ s'.os = s.os ∧ True := ⟨m.gens, m.drawn, m.os, trivial⟩
    refine ⟨s'.heap, s'.toks, ?_, fun b o eb => m.heap b o (fun hb => ?_) (k1 b o eb)⟩
    · obtain ⟨hp, g, d, tk, os⟩ := s'
      cases g2; cases d2; cases os2; rfl
    · have hlt := Heap.lt_size eb
      rcases List.mem_cons.mp hb with hb | hb
      · rw [hb] at hlt
        have e1 : s.heap.objs.size + 1 < s.heap.objs.size := by
          have e2 := Heap.size_push s.heap { cls := .type "list_iterator", data := .fields #[.ref a, .int 0 0] }
          rw [← e2]
          exact hlt
        exact absurd e1 (by omega)
      · rw [List.mem_singleton.mp hb] at hlt
        exact absurd hlt (Nat.lt_irrefl _)
  · rintro i k s1 s' h _
    exact h
  · rintro i v s1 o Q' E' hi hv ⟨h1, tk1, rfl, k1⟩ hst hS hQ
    obtain ⟨x, n, p, its2, hx, hn, r1, rfl, e2, e3, e4⟩ := at_ i v hv
    have e2' : IsTup h1 p its2 := let ⟨o, ho, r⟩ := e2; ⟨o, k1 _ _ ho, r⟩
    refine len_tuple (s := { s with heap := h1, toks := tk1 }) e2' (by omega) ?_
    refine hQ _ _ ⟨h1, _, rfl, k1⟩ hst hS ⟨tk1 + 1, ?_⟩ fun j k' hj => hj
    have : ns.getD i 0 = n := by simp [List.getD, hn]
    rw [this, e3]
  · rintro i j ki kj s1 Q' E' ⟨h1, tk1, rfl, k1⟩ ⟨t1, rfl⟩ ⟨t2, rfl⟩ hq
    exact CmpOf.ints_lt (prog := X.prog) (w := X.w) (A := X.A.in1) (P := fun i v => ∃ t, v = .int (ns.getD i 0 : Nat) t) (fun i => (ns.getD i 0 : Nat)) (fun i v h => h) i j _ _ _ _ _ ⟨t1, rfl⟩ ⟨t2, rfl⟩ hq
  · rintro v s' hP ⟨h', tk, rfl, k⟩
    obtain ⟨x, n, p, its2, hx, hn, r1, -, -, -, -⟩ := at_ _ v hP
    obtain ⟨hb1, hb2⟩ := argBest_lt (fun i => (ns.getD i 0 : Int)) (its.toArray.size - 1)
    refine ⟨x, H, I.kept k, r1, q _ x n hx hn fun m hm => ?_⟩
    obtain ⟨j, hj, ej⟩ := List.getElem_of_mem hm
    have := hb2 j (by simp; omega)
    have e1 : ns.getD j 0 = m := by simp [List.getD, hj, ej]
    have e2 : ns.getD (argBest (fun i j => decide ((ns.getD i 0 : Int) < ns.getD j 0)) (its.toArray.size - 1)) 0 = n := by rw [List.getD_eq_getElem?_getD, hn]; rfl
    rw [e1, e2] at this
    omega
end
end Jw
end

section
set_option Elab.async false
set_option linter.all false
set_option maxRecDepth 100000
set_option maxHeartbeats 4000000
/-! sorted of two things by a def's text. -/
namespace Jw
open PySem PySem.Spec PyProof.Rows L2 Jt JH
def rFork (K : PySem.W.Frag) (sp : Sp) : List V → Hp → VK → Prop := fun vs H Q => ∃ (a : Addr) (x y : V), vs = [.ref a] ∧ SqL K H a [x, y] ∧
  sp [x] H (fun r H1 => ∃ kx : Str, r = .str kx ∧ sp [y] H1 (fun r2 H2 => ∃ ky : Str, r2 = .str ky ∧ ky ≠ kx ∧ ∀ p, H2 p = none → Q (.ref p) (upd H2 p (.lst (if ky.cps.toList < kx.cps.toList then [y, x] else [x, y])))) E0) E0
theorem sort2 {α : Type} {le : α → α → Bool} (T : PySem.W.TotalLe le) (a b : α) : [a, b].mergeSort le = if le a b = true then [a, b] else [b, a] := by
  have pm := List.mergeSort_perm [a, b] le
  have pw := PySem.W.sort_pairwise T [a, b]
  rcases ksk_perm2 pm with e | e
  · rw [e] at pw ⊢
    have h : le a b = true := by simpa using pw
    rw [if_pos h]
  · by_cases h : le a b = true
    · rw [if_pos h]
      refine (PySem.W.sort_unique T (m := [a, b]) (l := [a, b]) ?_ fun _ => rfl).symm
      simpa using h
    · rw [if_neg h, e]
section
variable {X : Cx} {k : Nat} {ps : List Str} {sp : Sp} {f : Addr} {fd : FuncData}
theorem call_fork (F : FnOk X.prog X.w X.K X.mg X.base CX0 k f fd ps sp) (hb : Binds X.K fd ps []) (hr : Room (k + 2) X.A) {pins : List (Addr × Obj)} {s : Shared} {σ : L2.St} {H : Hp} {vs : List V} {us : List Value} {Q : VK} (I : Inv X pins σ H s) (r : Vals vs us) (h : rFork X.K sp vs H Q) :
    wpAny (model X.prog X.w) X.A (call (.builtin "sorted") us [(Str.ofString "key", .ref f)]) (EP X pins σ Q) X.xe s := by
  obtain ⟨a, x, y, rfl, hs, q⟩ := h
  rw [Vals.ref1 r]
  obtain ⟨its, rv, hl, hz⟩ := I.list hs
  cases rv with
  | cons r1 rv =>
  cases rv with
  | cons r2 rv =>
  cases rv
  rename_i v1 v2
  have hu := hr.units
  refine PySem.W.sorted_of_sort (vs := [v1, v2]) hl.isList (by show 2 ≤ sizeLine; decide) (ksk_s1 _ _) (fun _ => ksk_l1 _ _) fun E' => ?_
  rw [ksk_t1]
  obtain ⟨h0, eh0⟩ : ∃ h0, h0 = PySem.W.copyHeap s.heap [v1, v2] := ⟨_, rfl⟩
  rw [← eh0]
  have old0 : ∀ b o, s.heap.get? b = some o → h0.get? b = some o := fun b o e => by rw [eh0]; exact PySem.W.copyHeap_old e
  have ho : h0.get? (s.heap.objs.size + 1) = some (seqObj "list" [v1, v2].toArray 0) := by rw [eh0]; exact PySem.W.copyHeap_at _ _
  have hsz0 : h0.objs.size = s.heap.objs.size + 2 := by
    rw [eh0]; unfold PySem.W.copyHeap
    rw [size_push', Heap.size_update, size_push']
  clear eh0
  obtain ⟨A, eA⟩ : ∃ A, A = s.heap.objs.size + 1 := ⟨_, rfl⟩
  rw [← eA] at ho ⊢
  have I0 : Inv X pins σ H { s with heap := h0 } := I.kept (t' := s.toks) old0
  have ha : A < h0.objs.size := Heap.lt_size ho
  obtain ⟨e1, ho1⟩ : ∃ e1, (h0.update A (Obj.mapSeq fun _ => (#[] : Array Value))).get? A = some (seqObj "list" #[] e1) := ⟨_, get?_update_seq ho fun _ => #[]⟩
  have hk0 : ((h0.update A (Obj.mapSeq fun _ => (#[] : Array Value))).push (seqObj "tuple" [v1, v2].toArray 0)).objs.size = h0.objs.size + 1 := by rw [size_push', Heap.size_update]
  unfold ksk_tree
  refine wpAny_bind (listItems_at ho rfl ?_)
  refine wpAny_bind (listUpdate_at ho rfl ?_ (by show 2 ≤ sizeLine; decide) (Nat.zero_le _))
  refine wpAny_bind (seqEpoch_at ho1 rfl ?_)
  refine wpAny_bind (wpAny_newTuple ?_ (by show 2 ≤ sizeLine; decide))
  refine wpAny_bind (wpAny_newList ?_ (Nat.zero_le _))
  refine wpAny_holding ?_
  obtain ⟨S, eS⟩ : ∃ S, S = ((h0.update A (Obj.mapSeq fun _ => (#[] : Array Value))).push (seqObj "tuple" [v1, v2].toArray 0)).objs.size := ⟨_, rfl⟩
  obtain ⟨h1, eh1⟩ : ∃ h1, h1 = ((h0.update A (Obj.mapSeq fun _ => (#[] : Array Value))).push (seqObj "tuple" [v1, v2].toArray 0)).push (seqObj "list" #[] 0) := ⟨_, rfl⟩
  have old1 : ∀ b o, s.heap.get? b = some o → h1.get? b = some o := fun b o e => by
    rw [eh1]
    exact PySem.W.sortingHeap_old (h := h0) (vs := [v1, v2]) (Nat.ne_of_lt (by rw [eA]; exact Nat.lt_succ_of_lt (Heap.lt_size e))) (old0 _ _ e)
  have nS1 : h1.get? S = some (seqObj "list" #[] 0) := by rw [eh1, eS]; exact Heap.get?_push_size _ rfl
  have nA1 : h1.get? A = some (seqObj "list" #[] e1) := by rw [eh1]; exact Heap.get?_push_of_some _ (Heap.get?_push_of_some _ ho1)
  rw [← eS, ← eh1]
  rw [hk0] at eS
  have hSA : S ≠ A := by omega
  clear eh1
  have I1 : Inv X pins σ H { s with heap := h1 } := I.kept (t' := s.toks) old1
  have hA0 : H A = none := I.hok.fresh (by omega)
  have hS0 : H S = none := I.hok.fresh (by omega)
  have fA : ∀ {H' : Hp}, H' A = none → FpOk X pins H' A := fun h => I.fpOk (by omega) h
  have fS : ∀ {H' : Hp}, H' S = none → FpOk X pins H' S := fun h => I.fpOk (by omega) h
  have nst : ∀ b, s.heap.objs.size ≤ b → b ∉ frs X.stack := fun b hb z => by
    rcases List.mem_cons.mp (I.stkSub b z) with e | e
    · exact absurd I.lt (Nat.not_lt.mpr (e ▸ hb))
    · exact I.nofs hb e
  -- one call of the key
  have step : ∀ (w : V) (u : Value) (s1 : Shared) (H1 : Hp) (Q1 : VK) (kA : Array Value) (e : Nat) (E1 : Value → Shared → Prop), RelV w u → Inv X pins σ H1 s1 → H1 A = none → H1 S = none → s1.heap.get? A = some (seqObj "list" #[] e1) → s1.heap.get? S = some (seqObj "list" kA e) → sp [w] H1 Q1 E0 →
      wpAny (model X.prog X.w) X.A.in1.in1 (call (.ref f) [u]) (fun t s2 => ∃ v H2, RelV v t ∧ Q1 v H2 ∧ Inv X pins σ H2 s2 ∧ H2 A = none ∧ H2 S = none ∧ s2.heap.get? A = some (seqObj "list" #[] e1) ∧ s2.heap.get? S = some (seqObj "list" kA e)) E1 s1 := by
    intro w u s1 H1 Q1 kA e E1 rw1 J1 a1 s1n na ns hsp
    have hl1 := F.len _ _ _ _ hsp
    refine wpAny_call (codeAny_mono (F.run X.A.in1.in1 X.stack s1 H1 ⟨[u], []⟩ [u] [w] Q1 E0 hr.in1.in1 J1.env0.in1.in1 (by have := hb s1 [u] J1.kIn (by simpa using hl1); simpa using this) (.cons rw1 .nil) hsp) fun r s' hq => ?_)
    cases r with
    | error e => exact (show False from hq).elim
    | ok fl =>
      cases fl with
      | ret t =>
        have hq' : CE X.stack X.prog X.w H1 s1 Q1 t s' := hq
        obtain ⟨v, H2, os, bare, un, hok, rv, q2⟩ := hq'
        have kA2 := un.keep A _ na a1 (nst A (by omega)) (by simp)
        have kS2 := un.keep S _ ns s1n (nst S (by omega)) (by simp)
        have fA2 := un.free A _ na a1 (by simp)
        have fS2 := un.free S _ ns s1n (by simp)
        have J2 : Inv X pins σ H2 s' := by
          obtain ⟨hh, g, d, t, os'⟩ := s'
          obtain rfl : os' = s1.os := os
          exact J1.call (h' := hh) (g' := g) (d' := d) (t' := t) (ch := []) un hok bare (fun b z => absurd z (by simp))
        exact ⟨v, H2, rv, q2, J2, fA2, fS2, kA2, kS2⟩
      | next => exact (show False from hq).elim
      | brk => exact (show False from hq).elim
      | cont => exact (show False from hq).elim
  -- the key is put in the store
  have put : ∀ (s1 : Shared) (H1 : Hp) (kA : Array Value) (e : Nat) (u : Value), Inv X pins σ H1 s1 → H1 A = none → H1 S = none → s1.heap.get? A = some (seqObj "list" #[] e1) → s1.heap.get? S = some (seqObj "list" kA e) →
      ∃ e', Inv X pins σ H1 { s1 with heap := s1.heap.update S (Obj.mapSeq (·.push u)) } ∧ (s1.heap.update S (Obj.mapSeq (·.push u))).get? A = some (seqObj "list" #[] e1) ∧ (s1.heap.update S (Obj.mapSeq (·.push u))).get? S = some (seqObj "list" (kA.push u) e') := by
    intro s1 H1 kA e u J1 a1 s1n na ns
    have sb := Heap.SameBut.update s1.heap S (Obj.mapSeq (·.push u))
    obtain ⟨c2, hc2⟩ : ∃ c2, (s1.heap.update S (Obj.mapSeq (·.push u))).get? S = some (seqObj "list" (kA.push u) c2) := ⟨_, get?_update_seq ns (·.push u)⟩
    obtain ⟨f0, f1, f2, f3, f4, f5⟩ := fS (H' := H1) s1n
    exact ⟨c2, J1.turned (t' := s1.toks) (fun b o hb e => (sb.2 b hb).trans e) f0 f1 f3 f4 f5, (sb.2 A hSA.symm).trans na, hc2⟩
  unfold ksk_rest
  refine wpAny_bind (wpAny_rule ?_)
  first
    | rw [List.forIn_toArray]
    | (rw [← Array.forIn_toList]; simp only [List.toList_toArray])
    | rw [← Array.forIn_toList]
  rw [List.forIn_cons]
  refine wpAny_bind ?_
  refine wpAny_bind ?_
  refine wpAny_bind (wpAny_attempt (wpAny_mono (step x v1 { s with heap := h1 } H _ #[] 0 (fun _ _ => False) r1 I1 hA0 hS0 nA1 nS1 q) ?_ fun _ _ hF => hF.elim))
  rintro t1 s2 ⟨_, H2, rt, ⟨kx, rfl, q2⟩, I2, a2, s2n, na2, ns2⟩
  obtain ⟨tk1, rfl⟩ := rt
  dsimp only
  refine wpAny_bind (listUpdate_at ns2 rfl ?_ (by show 0 ≤ sizeLine; decide) (by show 1 ≤ sizeLine + 1; decide))
  refine wpAny_pure ?_
  obtain ⟨c2, I2', na2', ns2'⟩ := put s2 H2 #[] 0 (.str kx tk1) I2 a2 s2n na2 ns2
  dsimp only
  rw [List.forIn_cons]
  refine wpAny_bind ?_
  refine wpAny_bind (wpAny_attempt (wpAny_mono (step y v2 _ H2 _ _ c2 (fun _ _ => False) r2 I2' a2 s2n na2' ns2' q2) ?_ fun _ _ hF => hF.elim))
  rintro t2 s3 ⟨_, H3, rt2, ⟨ky, rfl, hne, q3⟩, I3, a3, s3n, na3, ns3⟩
  obtain ⟨tk2, rfl⟩ := rt2
  dsimp only
  refine wpAny_bind (listUpdate_at ns3 rfl ?_ (by show 1 ≤ sizeLine; decide) (by show 2 ≤ sizeLine + 1; decide))
  refine wpAny_pure ?_
  obtain ⟨c3, I3', na3', ns3'⟩ := put s3 H3 _ c2 (.str ky tk2) I3 a3 s3n na3 ns3
  dsimp only
  rw [List.forIn_nil]
  refine wpAny_pure ?_
  refine wpAny_bind (listItems_at ns3' rfl ?_)
  obtain ⟨G, g1, g2⟩ := L2.restrict (s3.heap.update S (Obj.mapSeq (·.push (.str ky tk2)))) fun b => decide (b ≠ S)
  have hkeys : ((#[] : Array Value).push (.str kx tk1)).push (.str ky tk2) = #[.str kx tk1, .str ky tk2] := rfl
  rw [hkeys] at ns3' ⊢
  have er : PySem.W.EachIs (fun v d => ∃ as, Reads (s3.heap.update S (Obj.mapSeq (·.push (.str ky tk2)))) v d as) [Value.str kx tk1, .str ky tk2] [PyData.str kx, .str ky] := .cons ⟨_, Reads.str _ _⟩ (.cons ⟨_, Reads.str _ _⟩ .nil)
  have hal : PySem.W.AllAlike [PyData.str kx, .str ky] := fun d hd d' hd' => by
    simp only [List.mem_cons, List.not_mem_nil, or_false] at hd hd'
    rcases hd with rfl | rfl <;> rcases hd' with rfl | rfl <;> simp [PySem.W.alike]
  have hk : PySem.W.Sortable [PyData.str kx, .str ky] := .inr fun d hd => by
    simp only [List.mem_cons, List.not_mem_nil, or_false] at hd
    rcases hd with rfl | rfl <;> exact ⟨by simp, by simp⟩
  refine PySem.W.keyH_end (κ := PySem.W.dataKind (s3.heap.update S (Obj.mapSeq (·.push (.str ky tk2)))) [PyData.str kx, .str ky]) (keys := #[.str kx tk1, .str ky tk2]) (vs := [v1, v2]) (h₁ := G) (fun b o hb e => ?_) (g2 S (by simp)) ns3' na3' hSA
    (PySem.W.SortsAt.data (s := { s3 with heap := s3.heap.update S (Obj.mapSeq (·.push (.str ky tk2))) }) er hal hk fun d hd => ?_) rfl (by show 2 ≤ sizeLine; decide) fun h' tk c kp hA => ⟨rfl, ?_⟩
  · by_cases hbS : b = S
    · rw [hbS, g2 S (by simp)] at e; cases e
    · rw [← g1 b (by simp [hbS])]; exact e
  · simp only [List.mem_cons, List.not_mem_nil, or_false] at hd
    have e1 : X.A.in1.in1.units = X.A.units + 2 := rfl
    rcases hd with rfl | rfl <;> (simp only [PyData.depth]; omega)
  · have J : Inv X pins σ H3 { s3 with heap := h', toks := tk } := Inv.turnedL (s := { s3 with heap := s3.heap.update S (Obj.mapSeq (·.push (.str ky tk2))) }) (h' := h') I3' (t' := tk) (ch := [A, S]) (fun b o hb e => by
      have hb' : b ≠ A ∧ b ≠ S := by simpa using hb
      refine kp b o hb'.1 ?_
      rw [g1 b (by simp [hb'.2])]; exact e) fun b hb => by
        simp only [List.mem_cons, List.not_mem_nil, or_false] at hb
        rcases hb with rfl | rfl
        · exact fA a3
        · exact fS s3n
    have hs : PySem.W.EachIs (fun u (z : V × Str) => RelV z.1 u) (PySem.W.sortVals (PySem.W.dataKind (s3.heap.update S (Obj.mapSeq (·.push (.str ky tk2)))) [PyData.str kx, .str ky]) false [.str kx tk1, .str ky tk2] [v1, v2]) ([(x, kx), (y, ky)].mergeSort (PySem.W.sortLe (PyProof.Rows.listOrd PyProof.Rows.itemOrd) false fun z : V × Str => PySem.W.keyToks (.str z.2))) := PySem.W.sortVals_each (κ := PySem.W.dataKind (s3.heap.update S (Obj.mapSeq (·.push (.str ky tk2)))) [PyData.str kx, .str ky]) (rev := false) (R := fun u (z : V × Str) => RelV z.1 u) (ks := [.str kx tk1, .str ky tk2]) (vs := [v1, v2]) (bs := [(x, kx), (y, ky)])
      (fun z => PySem.W.keyToks (.str z.2)) (.cons r1 (.cons r2 .nil)) (.cons (PySem.W.dataKind_some hal (d := .str kx) (by simp) (Reads.str _ _)) (.cons (PySem.W.dataKind_some hal (d := .str ky) (by simp) (Reads.str _ _)) .nil))
    rw [sort2 (PySem.W.sortLe_total (PyProof.Rows.listOrd PyProof.Rows.itemOrd) false fun z : V × Str => PySem.W.keyToks (.str z.2))] at hs
    have hle : PySem.W.sortLe (PyProof.Rows.listOrd PyProof.Rows.itemOrd) false (fun z : V × Str => PySem.W.keyToks (.str z.2)) (x, kx) (y, ky) = !decide (ky.cps.toList < kx.cps.toList) := by
      have := PySem.W.dataLt_str ky kx
      show (!PySem.W.dataLt (.str ky) (.str kx)) = _
      rw [this]
    rw [hle] at hs
    have hv : ∀ {out : List Value} {zs : List (V × Str)}, PySem.W.EachIs (fun u (z : V × Str) => RelV z.1 u) out zs → Vals (zs.map (·.1)) out := by
      intro out zs h
      induction h with
      | nil => exact .nil
      | cons h _ ih => exact .cons h ih
    have hvs := hv hs
    have hml : (if (!decide (ky.cps.toList < kx.cps.toList)) = true then [(x, kx), (y, ky)] else [(y, ky), (x, kx)]).map (·.1) = if ky.cps.toList < kx.cps.toList then [y, x] else [x, y] := by
      by_cases hc : ky.cps.toList < kx.cps.toList <;> simp [hc]
    rw [hml] at hvs
    refine ⟨.ref A, upd H3 A (.lst (if ky.cps.toList < kx.cps.toList then [y, x] else [x, y])), J.take (t' := tk) (fun _ _ _ e => e) (fA a3) ⟨by split <;> (show 2 ≤ sizeLine; decide), _, c, hvs, hA⟩, rfl, q3 A a3⟩
variable {y : Str} {p p2 kpos pos : Pos} {e : Expr} {es : List Expr} {t : TA}
theorem pe_fork (F : Cal X.prog X.w X.K X.mg X.base k y ps sp) (hr : Room (k + 2) X.A) (hg : Gl X "sorted") (hm : X.mg "sorted" = none) (hgy : Gl X y) (ha : PA X (e :: es) t) (hdb : (y == ("__debug__" : Str)) = false := by decide)
    (he : backTo pos (starEach (e :: es) X.env) = (false, eval e X.env) :: backTo pos (starEach es X.env) := by rfl) (hpl : (backTo pos (starEach (e :: es) X.env)).any (·.1) = false := by rfl)
    (hall : (backToKw pos (keywordEach [⟨some "key", .Name y p2, kpos⟩] X.env)).all (·.1.isSome) = true := by rfl) (hnone : (backToKw pos (keywordEach [⟨some "key", .Name y p2, kpos⟩] X.env)).any (·.1.isNone) = false := by rfl)
    (hks : (backToKw pos (keywordEach [⟨some "key", .Name y p2, kpos⟩] X.env)).filterMap (·.1) = [Str.ofString "key"] := by rfl) :
    PE X (.Call (.Name "sorted" p) (e :: es) [⟨some "key", .Name y p2, kpos⟩] pos) (tCB (rFork X.K sp) t) := by
  obtain ⟨f, fd, G, m, kp, b⟩ := F.ex
  refine ⟨fun pins s σ H Q I h => ?_⟩
  refine wpAny_Call_Name_kw (ld_blt I hg hm boot_sorted ?_ (by decide) (by decide))
  refine PyProof.Rows.callWith_kw (thn (ha.run pos pins s σ H _ I h) fun us s1 ⟨vs, H1, I1, r1, q1⟩ => ?_) he hpl hall hnone
  show wpAny _ _ (evalAll ((do let v ← eval (.Name y p2) X.env; standAt pos; pure v) :: [])) _ _ s1
  refine wpAny_evalAll_cons (wpAny_bind (ld_glob I1 hgy m (wpAny_bind (wpAny_standAt (wpAny_pure (wpAny_evalAll_nil ?_)))) hdb))
  rw [hks]
  exact call_fork G b hr I1 r1 q1
end
end Jw
end

section
set_option Elab.async false
set_option linter.all false
set_option maxRecDepth 100000
set_option maxHeartbeats 4000000
/-! Data of names, lots, trees; promises; readings of calls. -/
namespace Jw
open PySem PySem.Spec PyProof.Rows L2 Jt JH

/-! ### what things read as -/
section
variable (nm : Nat → Str)
abbrev dN (i : Nat) : PyData := .str (nm i)
def dL (l : List Nat) : PyData := .tuple (l.map (dN nm))
def dT : Tr → PyData
  | .lf i => .str (nm i)
  | .fk a b => .tuple [dT a, dT b]
def dLs (o : List (List Nat)) : PyData := .tuple (o.map (dL nm))
end
theorem eqvAll_map {α : Type} (f : α → PyData) : ∀ (as bs : List α), (∀ a ∈ as, ∀ b ∈ bs, PyData.eqv (f a) (f b) = true ↔ a = b) → (PyData.eqvAll (as.map f) (bs.map f) = true ↔ as = bs)
  | [], [], _ => by simp [PyData.eqvAll]
  | [], b :: bs, _ => by simp [PyData.eqvAll]
  | a :: as, [], _ => by simp [PyData.eqvAll]
  | a :: as, b :: bs, h => by
    rw [List.map_cons, List.map_cons, PyData.eqvAll, Bool.and_eq_true, h a List.mem_cons_self b List.mem_cons_self, eqvAll_map f as bs fun x hx y hy => h x (List.mem_cons_of_mem _ hx) y (List.mem_cons_of_mem _ hy)]
    simp
theorem lay_map {α : Type} (f : α → PyData) : ∀ (as : List α), (∀ a ∈ as, (f a).canLay0 = true) → PyData.canLayAll0 (as.map f) = true
  | [], _ => by simp [PyData.canLayAll0]
  | a :: as, h => by simp [PyData.canLayAll0, h a List.mem_cons_self, lay_map f as fun x hx => h x (List.mem_cons_of_mem _ hx)]
theorem depth_map {α : Type} (f : α → PyData) (n : Nat) : ∀ (as : List α), (∀ a ∈ as, (f a).depth ≤ n) → PyData.depthAll (as.map f) ≤ n
  | [], _ => by simp [PyData.depthAll]
  | a :: as, h => by
    have h1 := h a List.mem_cons_self
    have h2 := depth_map f n as fun x hx => h x (List.mem_cons_of_mem _ hx)
    simp only [List.map_cons, PyData.depthAll]
    omega
theorem shaped_of {d : PyData} (h : d.canLay0 = true) (h2 : d.depth ≤ 64) : SeqAt.shaped d = true := by
  show (d.canLay0 && decide (d.depth ≤ 64)) = true
  rw [h, decide_eq_true h2]; rfl
theorem dp_all {α : Type} {K : PySem.W.Frag} {H : Hp} {R : Hp → V → α → Prop} {f : α → PyData} {vs : List V} {as : List α} (h : P2 (R H) vs as) (k : ∀ v a, R H v a → Dp K H v (f a)) : DpAll K H vs (as.map f) := by
  induction h with
  | nil => exact .nil
  | cons r _ ih => exact .cons (k _ _ r) ih
section
variable {nm : Nat → Str} {n : Nat} {K : PySem.W.Frag} {H : Hp}
theorem eqv_dN (N : Nm nm n) {i j : Nat} (hi : i < n) (hj : j < n) : PyData.eqv (dN nm i) (dN nm j) = true ↔ i = j := by
  simp only [PyData.eqv, beq_iff_eq]
  exact ⟨fun e => N.inj hi hj e, fun e => by rw [e]⟩
theorem eqv_dL (N : Nm nm n) {l m : List Nat} (hl : ∀ x ∈ l, x < n) (hm : ∀ x ∈ m, x < n) : PyData.eqv (dL nm l) (dL nm m) = true ↔ l = m := by
  unfold dL
  rw [PyData.eqv]
  exact eqvAll_map _ l m fun a ha b hb => eqv_dN N (hl a ha) (hm b hb)
theorem eqv_dT (N : Nm nm n) : ∀ {t u : Tr}, (∀ x ∈ t.nm, x < n) → (∀ x ∈ u.nm, x < n) → (PyData.eqv (dT nm t) (dT nm u) = true ↔ t = u)
  | .lf i, .lf j, h1, h2 => by
    have := eqv_dN N (h1 i (by simp [Tr.nm])) (h2 j (by simp [Tr.nm]))
    simp only [dT, Tr.lf.injEq]; exact this
  | .lf i, .fk a b, _, _ => by simp [dT, PyData.eqv]
  | .fk a b, .lf j, _, _ => by simp [dT, PyData.eqv]
  | .fk a b, .fk c d, h1, h2 => by
    have e1 := eqv_dT N (t := a) (u := c) (fun x hx => h1 x (List.mem_append_left _ hx)) (fun x hx => h2 x (List.mem_append_left _ hx))
    have e2 := eqv_dT N (t := b) (u := d) (fun x hx => h1 x (List.mem_append_right _ hx)) (fun x hx => h2 x (List.mem_append_right _ hx))
    simp only [dT, PyData.eqv, PyData.eqvAll, Bool.and_eq_true, Bool.and_true, e1, e2, Tr.fk.injEq]
theorem eqv_dLs (N : Nm nm n) {l m : List (List Nat)} (hl : ∀ o ∈ l, ∀ x ∈ o, x < n) (hm : ∀ o ∈ m, ∀ x ∈ o, x < n) : PyData.eqv (dLs nm l) (dLs nm m) = true ↔ l = m := by
  unfold dLs
  rw [PyData.eqv]
  exact eqvAll_map _ l m fun a ha b hb => eqv_dL N (hl a ha) (hm b hb)
theorem bool_iff {b : Bool} {p : Prop} [Decidable p] (h : b = true ↔ p) : b = decide p := by
  by_cases hp : p
  · rw [decide_eq_true hp]; exact h.mpr hp
  · rw [decide_eq_false hp]
    cases b
    · rfl
    · exact (hp (h.mp rfl)).elim
theorem Nm.str (N : Nm nm n) {i : Nat} (hi : i < n) : PyData.strOk (nm i) = true := by
  show (nm i).cps.all (· < 0x110000) = true
  rw [← Array.all_toList, List.all_eq_true]
  intro c hc
  have := N.low i hi c hc
  exact decide_eq_true (by omega)
theorem lay_dN (N : Nm nm n) {i : Nat} (hi : i < n) : (dN nm i).canLay0 = true := by simp only [PyData.canLay0]; exact N.str hi
theorem lay_dL (N : Nm nm n) {l : List Nat} (h : ∀ x ∈ l, x < n) : (dL nm l).canLay0 = true := by simp only [dL, PyData.canLay0]; exact lay_map _ l fun x hx => lay_dN N (h x hx)
theorem depth_dL (l : List Nat) : (dL nm l).depth ≤ 1 := by
  have := depth_map (dN nm) 0 l fun _ _ => by simp [PyData.depth]
  simp only [dL, PyData.depth]; omega
theorem lay_dLs (N : Nm nm n) {l : List (List Nat)} (h : ∀ o ∈ l, ∀ x ∈ o, x < n) : (dLs nm l).canLay0 = true := by simp only [dLs, PyData.canLay0]; exact lay_map _ l fun a ha => lay_dL N (h a ha)
theorem depth_dLs (l : List (List Nat)) : (dLs nm l).depth ≤ 2 := by
  have := depth_map (dL nm) 1 l fun a _ => depth_dL a
  simp only [dLs, PyData.depth]; omega
theorem lay_dT (N : Nm nm n) : ∀ {t : Tr}, (∀ x ∈ t.nm, x < n) → (dT nm t).canLay0 = true
  | .lf i, h => by simp only [dT, PyData.canLay0]; exact N.str (h i (by simp [Tr.nm]))
  | .fk a b, h => by
    have h1 := lay_dT N (t := a) fun x hx => h x (List.mem_append_left _ hx)
    have h2 := lay_dT N (t := b) fun x hx => h x (List.mem_append_right _ hx)
    simp [dT, PyData.canLay0, PyData.canLayAll0, h1, h2]
theorem depth_dT : ∀ t : Tr, (dT nm t).depth ≤ t.sz
  | .lf i => by simp [dT, PyData.depth]
  | .fk a b => by
    have h1 := depth_dT a
    have h2 := depth_dT b
    simp only [dT, PyData.depth, PyData.depthAll, Tr.sz]; omega
theorem sh_dL (N : Nm nm n) {l : List Nat} (h : ∀ x ∈ l, x < n) : SeqAt.shaped (dL nm l) = true := shaped_of (lay_dL N h) (by have := depth_dL (nm := nm) l; omega)
theorem sh_dLs (N : Nm nm n) {l : List (List Nat)} (h : ∀ o ∈ l, ∀ x ∈ o, x < n) : SeqAt.shaped (dLs nm l) = true := shaped_of (lay_dLs N h) (by have := depth_dLs (nm := nm) l; omega)
theorem sh_dT (N : Nm nm n) {t : Tr} (hn : ∀ x ∈ t.nm, x < n) (h : t.sz ≤ 64) : SeqAt.shaped (dT nm t) = true := shaped_of (lay_dT N hn) (by have := depth_dT (nm := nm) t; omega)
theorem dp_nm {v : V} {i : Nat} (h : NmV nm H v i) : Dp K H v (dN nm i) := by rw [h]; exact .str _
theorem dp_lot {v : V} {l : List Nat} (h : LotV nm H v l) : Dp K H v (dL nm l) := by
  obtain ⟨p, vs, rfl, hp, r⟩ := lot_tup.mp h
  exact .tup (SqT.of hp) (dp_all r fun _ _ => dp_nm)
theorem dp_tr {v : V} {t : Tr} (h : TrV nm H v t) : Dp K H v (dT nm t) := by
  induction h with
  | lf i => exact .str _
  | fk e _ _ ih1 ih2 => exact .tup (SqT.of e) (.cons ih1 (.cons ih2 .nil))
theorem dp_lots {v : V} {o : List (List Nat)} (h : TupV (LotV nm) H v o) : Dp K H v (dLs nm o) := by
  obtain ⟨p, vs, rfl, hp, r⟩ := h
  exact .tup (SqT.of hp) (dp_all r fun _ _ => dp_lot)
end

/-! ### more rules that name the written part -/
section
variable {X : Cx} (K : PySem.W.Frag)
theorem catA (h : X.K = K := by rfl) : OpR X (binaryOp .Add) (rCatA K) := h ▸ op_catA
theorem slT (h : X.K = K := by rfl) : SlR X (rSlT K) := h ▸ sl_tup
theorem slL (h : X.K = K := by rfl) : SlR X (rSlL K) := h ▸ sl_list
end

/-- a list or a tuple -/
def SqV {α : Type} (K : PySem.W.Frag) (R : Hp → V → α → Prop) (H : Hp) (v : V) (as : List α) : Prop := ∃ p xs, v = .ref p ∧ (SqL K H p xs ∨ SqT K H p xs) ∧ P2 (R H) xs as

/-! ### promises -/
def Pur {ι : Type} (Pre : ι → List V → Hp → Prop) (Post : ι → Hp → Hp → V → Prop) : Sp := fun vs H Q _ => ∃ i, Pre i vs H ∧ ∀ r H', Same H H' → Post i H H' r → Q r H'
/-- a list that is new since H0 -/
def LstN {α : Type} (R : Hp → V → α → Prop) (H0 H : Hp) (v : V) (as : List α) : Prop := ∃ p vs, v = .ref p ∧ H0 p = none ∧ H p = some (.lst vs) ∧ P2 (R H) vs as
theorem LstN.l {α : Type} {R : Hp → V → α → Prop} {H0 H : Hp} {v : V} {as : List α} (h : LstN R H0 H v as) : LstV R H v as := let ⟨p, vs, e, _, a, b⟩ := h; ⟨p, vs, e, a, b⟩
theorem LstN.back {α : Type} {R : Hp → V → α → Prop} {H0 H1 H : Hp} {v : V} {as : List α} (h : LstN R H1 H v as) (s : Same H0 H1) : LstN R H0 H v as := let ⟨p, vs, e, z, a, b⟩ := h; ⟨p, vs, e, s.free z, a, b⟩
section
variable {σ : L2.St} {H : Hp} {te ta tb tc td : TE} {R Ra Rb Rc Rd : Hp → V → Prop} {ι : Type} {Pre : ι → List V → Hp → Prop} {Post : ι → Hp → Hp → V → Prop} {E : XK}
theorem gv_call1 (ha : Gv ta σ H Ra) (h : ∀ x H1, Same H H1 → Ra H1 x → ∃ i, Pre i [x] H1 ∧ ∀ r H2, Same H1 H2 → Post i H1 H2 r → R H2 r) : Gv (tCall (Pur Pre Post) [] E (tCons ta tNil)) σ H R := fun Q q =>
  ha _ fun x H1 s1 r1 => let ⟨i, p, k⟩ := h x H1 s1 r1; ⟨i, p, fun r H2 s2 z => q r H2 (s1.trans s2) (k r H2 s2 z)⟩
theorem gv_call2 (ha : Gv ta σ H Ra) (hb : ∀ H1, Same H H1 → Gv tb σ H1 Rb) (h : ∀ x y H1 H2, Same H H1 → Ra H1 x → Same H1 H2 → Rb H2 y → ∃ i, Pre i [x, y] H2 ∧ ∀ r H3, Same H2 H3 → Post i H2 H3 r → R H3 r) : Gv (tCall (Pur Pre Post) [] E (tCons ta (tCons tb tNil))) σ H R := fun Q q =>
  ha _ fun x H1 s1 r1 => hb H1 s1 _ fun y H2 s2 r2 => let ⟨i, p, k⟩ := h x y H1 H2 s1 r1 s2 r2; ⟨i, p, fun r H3 s3 z => q r H3 ((s1.trans s2).trans s3) (k r H3 s3 z)⟩
theorem gv_call3 (ha : Gv ta σ H Ra) (hb : ∀ H1, Same H H1 → Gv tb σ H1 Rb) (hc : ∀ H1, Same H H1 → Gv tc σ H1 Rc) (h : ∀ x y z H1 H2 H3, Same H H1 → Ra H1 x → Same H1 H2 → Rb H2 y → Same H2 H3 → Rc H3 z → ∃ i, Pre i [x, y, z] H3 ∧ ∀ r H4, Same H3 H4 → Post i H3 H4 r → R H4 r) :
    Gv (tCall (Pur Pre Post) [] E (tCons ta (tCons tb (tCons tc tNil)))) σ H R := fun Q q =>
  ha _ fun x H1 s1 r1 => hb H1 s1 _ fun y H2 s2 r2 => hc H2 (s1.trans s2) _ fun z H3 s3 r3 => let ⟨i, p, k⟩ := h x y z H1 H2 H3 s1 r1 s2 r2 s3 r3; ⟨i, p, fun r H4 s4 w => q r H4 (((s1.trans s2).trans s3).trans s4) (k r H4 s4 w)⟩
theorem gv_imp {R' : Hp → V → Prop} (h : Gv te σ H R) (f : ∀ r H1, Same H H1 → R H1 r → R' H1 r) : Gv te σ H R' := fun Q q => h Q fun r H1 s1 z => q r H1 s1 (f r H1 s1 z)
theorem gv_tup1 {Ra : Hp → V → Prop} (ha : Gv ta σ H Ra) (f : ∀ x H1 p, Same H H1 → Ra H1 x → H1 p = none → R (upd H1 p (.tup [x])) (.ref p)) : Gv (tTup (tCons ta tNil)) σ H R := fun Q q =>
  ha _ fun x H1 s1 r1 => ⟨by show 1 ≤ sizeLine; decide, fun p hp => q _ _ (s1.trans (same_new hp _)) (f x H1 p s1 r1 hp)⟩
theorem gt_gv {b : Bool} (h : Gv te σ H fun _ v => v = .bl b) : Gt (tB te) σ H b := fun Q q => h _ fun r H1 s1 e => ⟨b, e, q H1 s1⟩
theorem gt_test {b : Bool} (h : Gv te σ H fun _ v => v = .bl b) : Gt (tTest te) σ H b := fun Q q => h _ fun r H1 s1 e => ⟨b, e, q H1 s1⟩
theorem gt_not {tt : TT} {b : Bool} (h : Gt tt σ H b) : Gt (tNot tt) σ H (!b) := fun Q q => h _ fun H1 s1 => q H1 s1
theorem gt_or {tt tu : TT} {b c : Bool} (h : Gt tt σ H b) (k : ∀ H1, Same H H1 → Gt tu σ H1 c) : Gt (tOr tt tu) σ H (b || c) := fun Q q => h _ fun H1 s1 => by
  cases b with
  | true => exact iteT (q H1 s1)
  | false => exact iteF (k H1 s1 _ fun H2 s2 => q H2 (s1.trans s2))
theorem gt_and {tt tu : TT} {b c : Bool} (h : Gt tt σ H b) (k : b = true → ∀ H1, Same H H1 → Gt tu σ H1 c) (hf : b = false → c = false) : Gt (tAnd tt tu) σ H c := fun Q q => h _ fun H1 s1 => by
  cases b with
  | true => exact iteT (k rfl H1 s1 _ fun H2 s2 => q H2 (s1.trans s2))
  | false => exact iteF (by have := q H1 s1; rw [hf rfl] at this; exact this)
end
end Jw
namespace Jw
open PySem PySem.Spec PyProof.Rows L2 Jt JH
section
variable {σ : L2.St} {H : Hp} {te : TE} {tt : TT} {R : Hp → V → Prop} {D : Ends} {Q : VK} {α : Type} {K : PySem.W.Frag} {RA : Hp → V → α → Prop}
theorem gv_use (h : Gv te σ H R) (k : ∀ r H1, Same H H1 → R H1 r → Q r H1) : te σ H Q := h _ k
theorem gt_use {b : Bool} {Q : Bool → Hp → Prop} (h : Gt tt σ H b) (k : ∀ H1, Same H H1 → Q b H1) : tt σ H Q := h _ k
theorem r_lst1 (h : te σ H fun x H1 => [x].length ≤ sizeLine ∧ ∀ p, H1 p = none → Q (.ref p) (upd H1 p (.lst [x]))) : tLst (tCons te tNil) σ H Q := h
theorem one_line : 1 ≤ sizeLine := by decide
theorem r_next (h : D.nx σ H) : tNext D σ H := h
theorem gv_c {v : V} (h : R H v) : Gv (tC v) σ H R := fun _ q => q _ _ (Same.refl _) h
theorem gv_all {bs : List Bool} (h : Gv te σ H fun H1 v => LstV BlV H1 v bs) : Gv (tCB (rAll K) (tCons te tNil)) σ H fun _ r => r = .bl (bs.all id) := fun Q q =>
  r_b1 (gv_use h fun v H1 s1 ⟨p, ys, e, hp, r⟩ => ⟨p, bs, by rw [e], SqL.of (by rw [← bls r]; exact hp), q _ _ s1 rfl⟩)
theorem gv_any {bs : List Bool} (h : Gv te σ H fun H1 v => LstV BlV H1 v bs) : Gv (tCB (rAny K) (tCons te tNil)) σ H fun _ r => r = .bl (bs.any id) := fun Q q =>
  r_b1 (gv_use h fun v H1 s1 ⟨p, ys, e, hp, r⟩ => ⟨p, bs, by rw [e], SqL.of (by rw [← bls r]; exact hp), q _ _ s1 rfl⟩)
theorem gv_len {n : Nat} (h : Gv te σ H fun H1 v => ∃ p xs, v = .ref p ∧ (SqL K H1 p xs ∨ SqT K H1 p xs) ∧ xs.length = n) : Gv (tCB (rLenQ K) (tCons te tNil)) σ H fun _ r => r = .int n := fun Q q =>
  r_b1 (gv_use h fun v H1 s1 ⟨p, xs, e, hp, hl⟩ => ⟨p, xs, by rw [e], hp, q _ _ s1 (by rw [hl])⟩)
theorem TupV.lens {H1 : Hp} {v : V} {as : List α} (h : TupV RA H1 v as) : ∃ p xs, v = .ref p ∧ (SqL K H1 p xs ∨ SqT K H1 p xs) ∧ xs.length = as.length := let ⟨p, xs, e, a, b⟩ := h; ⟨p, xs, e, .inr (SqT.of a), b.len⟩
theorem LstV.lens {H1 : Hp} {v : V} {as : List α} (h : LstV RA H1 v as) : ∃ p xs, v = .ref p ∧ (SqL K H1 p xs ∨ SqT K H1 p xs) ∧ xs.length = as.length := let ⟨p, xs, e, a, b⟩ := h; ⟨p, xs, e, .inl (SqL.of a), b.len⟩
/-- tuple(a list) -/
theorem gv_tupOf (Pa : List α → Prop) (mA : TM RA) (h : Gv te σ H fun H1 v => ∃ as, Pa as ∧ LstV RA H1 v as) : Gv (tCB (rTupQ K) (tCons te tNil)) σ H fun H1 v => ∃ as, Pa as ∧ TupV RA H1 v as := fun Q q =>
  r_b1 (gv_use h fun v H1 s1 ⟨as, pa, p, xs, e, hp, r⟩ => ⟨p, xs, by rw [e], SqL.of hp, fun l hl => q _ _ (s1.trans (same_new hl _)) ⟨as, pa, l, xs, rfl, upd_same, r.imp fun _ _ k => mA.same (same_new hl _) k⟩⟩)
/-- list(a tuple or a list) -/
theorem gv_listOf (Pa : List α → Prop) (mA : TM RA) (h : Gv te σ H fun H1 v => ∃ as, Pa as ∧ SqV K RA H1 v as) : Gv (tCB (rListQ K) (tCons te tNil)) σ H fun H1 v => ∃ as, Pa as ∧ LstN RA H H1 v as := fun Q q =>
  r_b1 (gv_use h fun v H1 s1 ⟨as, pa, p, xs, e, hp, r⟩ => ⟨p, xs, by rw [e], hp, fun l hl => q _ _ (s1.trans (same_new hl _)) ⟨as, pa, l, xs, rfl, s1.free hl, upd_same, r.imp fun _ _ k => mA.same (same_new hl _) k⟩⟩)
/-- a == b of data -/
theorem gv_eqD {ta tb : TE} {da db : PyData} {Ra Rb : Hp → V → Prop} (ha : Gv ta σ H Ra) (hb : ∀ H1, Same H H1 → Gv tb σ H1 Rb) (h : ∀ x y H1 H2, Same H H1 → Ra H1 x → Same H1 H2 → Rb H2 y → Dp K H2 x da ∧ Dp K H2 y db) (sa : SeqAt.shaped da = true) (sb : SeqAt.shaped db = true) :
    Gv (tOp (rEqD K) ta tb) σ H fun _ r => r = .bl (PyData.eqv da db) := fun Q q =>
  r_op (gv_use ha fun x H1 s1 r1 => gv_use (hb H1 s1) fun y H2 s2 r2 => let ⟨p1, p2⟩ := h x y H1 H2 s1 r1 s2 r2; ⟨da, db, p1, p2, sa, sb, q _ _ (s1.trans s2) rfl⟩)
theorem gv_neD {ta tb : TE} {da db : PyData} {Ra Rb : Hp → V → Prop} (ha : Gv ta σ H Ra) (hb : ∀ H1, Same H H1 → Gv tb σ H1 Rb) (h : ∀ x y H1 H2, Same H H1 → Ra H1 x → Same H1 H2 → Rb H2 y → Dp K H2 x da ∧ Dp K H2 y db) (sa : SeqAt.shaped da = true) (sb : SeqAt.shaped db = true) :
    Gv (tOp (rNeD K) ta tb) σ H fun _ r => r = .bl (!PyData.eqv da db) := fun Q q =>
  r_op (gv_use ha fun x H1 s1 r1 => gv_use (hb H1 s1) fun y H2 s2 r2 => let ⟨p1, p2⟩ := h x y H1 H2 s1 r1 s2 r2; ⟨da, db, p1, p2, sa, sb, q _ _ (s1.trans s2) rfl⟩)
/-- () -/
theorem gv_unit : Gv (tTup tNil) σ H fun H1 v => TupV RA H1 v ([] : List α) := fun Q q => r_tup (r_nil ⟨Nat.zero_le _, fun p hp => q _ _ (same_new hp _) ⟨p, [], rfl, upd_same, .nil⟩⟩)
theorem gv_empty : Gv (tLst tNil) σ H fun H1 v => LstN RA H H1 v ([] : List α) := fun Q q => ⟨Nat.zero_le _, fun p hp => q _ _ (same_new hp _) ⟨p, [], rfl, hp, upd_same, .nil⟩⟩
end
theorem gv_emptyL {α : Type} {RA : Hp → V → α → Prop} {σ : L2.St} {H : Hp} : Gv (tLst tNil) σ H fun H1 v => LstV RA H1 v ([] : List α) := fun Q q => ⟨Nat.zero_le _, fun p hp => q _ _ (same_new hp _) ⟨p, [], rfl, upd_same, .nil⟩⟩
theorem sh_nil : SeqAt.shaped (.tuple []) = true := shaped_of (by simp [PyData.canLay0, PyData.canLayAll0]) (by simp [PyData.depth, PyData.depthAll])
theorem sh_nilL : SeqAt.shaped (.list []) = true := shaped_of (by simp [PyData.canLay0, PyData.canLayAll0]) (by simp [PyData.depth, PyData.depthAll])

/-! ### comprehensions as values -/
section
variable {α β : Type} {K : PySem.W.Frag} {tt : TT} {te tl te1 : TE} {vs vs1 : List Nat} {σ : L2.St} {H : Hp} {Q : VK} {j j1 : Nat} {RA : Hp → V → α → Prop} {RB : Hp → V → β → Prop}
theorem gv_lcT (f : α → Bool) (e : α → β) (Pa : List α → Prop) (mA : TM RA) (mB : TM RB) (hl : Gv tl σ H fun H1 v => ∃ as, Pa as ∧ SqTV K RA H1 v as) (hs : ∀ as, Pa as → as.length ≤ 100000)
    (hw : ∀ x, wipe ((wipe σ vs).set j (some x)) vs = wipe σ vs)
    (ht : ∀ as x c H2, Pa as → c ∈ as → Same H H2 → RA H2 x c → Gt tt ((wipe σ vs).set j (some x)) H2 (f c))
    (he : ∀ as x c H2, Pa as → c ∈ as → Same H H2 → RA H2 x c → f c = true → Gv te ((wipe σ vs).set j (some x)) H2 fun H3 y => RB H3 y (e c)) : Gv (tLc (iTup K tl) (gName j) tt te vs) σ H fun H1 v => ∃ as, Pa as ∧ LstN RB H H1 v ((as.filter f).map e) := fun Q q =>
  r_lcT f e Pa mA mB hl hs hw ht he fun as p ys H' pa hp s hp' r => q _ _ s ⟨as, pa, p, ys, rfl, hp, hp', r⟩
theorem gv_lcL (f : α → Bool) (e : α → β) (Pa : List α → Prop) (mA : TM RA) (mB : TM RB) (hl : Gv tl σ H fun H1 v => ∃ as, Pa as ∧ SqLV K RA H1 v as) (hs : ∀ as, Pa as → as.length ≤ 100000)
    (hw : ∀ x, wipe ((wipe σ vs).set j (some x)) vs = wipe σ vs)
    (ht : ∀ as x c H2, Pa as → c ∈ as → Same H H2 → RA H2 x c → Gt tt ((wipe σ vs).set j (some x)) H2 (f c))
    (he : ∀ as x c H2, Pa as → c ∈ as → Same H H2 → RA H2 x c → f c = true → Gv te ((wipe σ vs).set j (some x)) H2 fun H3 y => RB H3 y (e c)) : Gv (tLc (iList K tl) (gName j) tt te vs) σ H fun H1 v => ∃ as, Pa as ∧ LstN RB H H1 v ((as.filter f).map e) := fun Q q =>
  r_lcL f e Pa mA mB hl hs hw ht he fun as p ys H' pa hp s hp' r => q _ _ s ⟨as, pa, p, ys, rfl, hp, hp', r⟩
theorem gv_lcT0 (e : α → β) (Pa : List α → Prop) (mA : TM RA) (mB : TM RB) (hl : Gv tl σ H fun H1 v => ∃ as, Pa as ∧ SqTV K RA H1 v as) (hs : ∀ as, Pa as → as.length ≤ 100000)
    (hw : ∀ x, wipe ((wipe σ vs).set j (some x)) vs = wipe σ vs)
    (he : ∀ as x c H2, Pa as → c ∈ as → Same H H2 → RA H2 x c → Gv te ((wipe σ vs).set j (some x)) H2 fun H3 y => RB H3 y (e c)) : Gv (tLc (iTup K tl) (gName j) tYes te vs) σ H fun H1 v => ∃ as, Pa as ∧ LstN RB H H1 v (as.map e) := fun Q q =>
  r_lcT0 e Pa mA mB hl hs hw he fun as p ys H' pa hp s hp' r => q _ _ s ⟨as, pa, p, ys, rfl, hp, hp', r⟩
theorem gv_lcL0 (e : α → β) (Pa : List α → Prop) (mA : TM RA) (mB : TM RB) (hl : Gv tl σ H fun H1 v => ∃ as, Pa as ∧ SqLV K RA H1 v as) (hs : ∀ as, Pa as → as.length ≤ 100000)
    (hw : ∀ x, wipe ((wipe σ vs).set j (some x)) vs = wipe σ vs)
    (he : ∀ as x c H2, Pa as → c ∈ as → Same H H2 → RA H2 x c → Gv te ((wipe σ vs).set j (some x)) H2 fun H3 y => RB H3 y (e c)) : Gv (tLc (iList K tl) (gName j) tYes te vs) σ H fun H1 v => ∃ as, Pa as ∧ LstN RB H H1 v (as.map e) := fun Q q =>
  r_lcL0 e Pa mA mB hl hs hw he fun as p ys H' pa hp s hp' r => q _ _ s ⟨as, pa, p, ys, rfl, hp, hp', r⟩
theorem tyes_if {σ : L2.St} {H : Hp} {A B : Hp → Prop} (h : A H) : tYes σ H fun b H3 => if b = true then A H3 else B H3 := by
  show if true = true then A H else B H
  rw [if_pos rfl]; exact h
/-- [e for k in range(lo, hi)], [.. for k in range(n)] -/
theorem lc_rng {lo : Int} {m : Nat} (e : Nat → β) (mB : TM RB) (hs : m ≤ 100000) (hw : ∀ x, wipe ((wipe σ vs).set j (some x)) vs = wipe σ vs) {H1 : Hp} (s1 : Same H H1)
    (he : ∀ c H2, c < m → Same H H2 → Gv te ((wipe σ vs).set j (some (.int (lo + c)))) H2 fun H3 y => RB H3 y (e c))
    (hd : ∀ p ys H', H p = none → Same H H' → H' p = some (.lst ys) → P2 (RB H') ys ((List.range m).map e) → Q (.ref p) H') :
    ∀ D, H1 D = none → ∃ W : Nat → Nat → Hp → Prop, (∃ m, W 0 m (upd H1 D (.lst []))) ∧ ∀ i k H, W i k H →
      ((Itr lo m).stop i H ∧ Q (.ref D) H) ∨ ((Itr lo m).go i H ∧ ∃ Nx : Hp → Prop, (∀ H', Nx H' → ∃ m', m' < k ∧ W (i + 1) m' H') ∧ ∀ x H', (Itr lo m).yld i H x H' → gName j x (wipe σ vs) H' fun σ2 H2 => wipe σ2 vs = wipe σ vs ∧ tYes σ2 H2 fun b H3 =>
        if b = true then te σ2 H3 fun y H4 => ∃ acc, H4 D = some (.lst acc) ∧ acc.length < sizeLine ∧ Nx (upd H4 D (.lst (acc ++ [y]))) else Nx H3) := by
  refine lc_do (walk_range (lo := lo) (n := m)) (List.range m) (by simp) hs (fun _ => true) e mB (fun _ _ => trivial) (fun i a x H2 H3 hj s y => ?_) fun p ys H' hp s hp' hr => hd p ys H' (s1.free hp) (s1.trans s) hp' (by rw [filt_true] at hr; exact hr)
  obtain ⟨rfl, rfl⟩ := y
  have hi := (List.getElem?_eq_some_iff.mp hj).1
  simp only [List.length_range] at hi
  have e1 : a = i := by simpa [hi] using hj.symm
  subst e1
  exact ⟨Same.refl _, fun Qg k => k _ _ (Same.refl _) (hw _) (fun _ q => q _ (Same.refl _)) fun _ H5 s5 => he a H5 hi ((s1.trans s).trans s5)⟩
theorem gv_lcR2 {ta tb : TE} {lo : Int} {m : Nat} (e : Nat → β) (mB : TM RB) (ha : Gv ta σ H fun _ v => v = .int lo) (hb : ∀ H1, Same H H1 → Gv tb σ H1 fun _ v => v = .int (lo + m)) (hs : m ≤ 100000) (hlo : -1000 ≤ lo ∧ lo ≤ 1000) (hw : ∀ x, wipe ((wipe σ vs).set j (some x)) vs = wipe σ vs)
    (he : ∀ c H2, c < m → Same H H2 → Gv te ((wipe σ vs).set j (some (.int (lo + c)))) H2 fun H3 y => RB H3 y (e c)) : Gv (tLc (iRng2 (tCons ta (tCons tb tNil))) (gName j) tYes te vs) σ H fun H1 v => LstN RB H H1 v ((List.range m).map e) := fun Q q => by
  refine ha _ fun x H1 s1 e1 => hb H1 s1 _ fun y H2 s2 e2 => ⟨lo, lo + m, by rw [e1, e2], ⟨by omega, by omega, by omega, by omega⟩, ?_⟩
  have : ((lo + m) - lo).toNat = m := by omega
  rw [this]
  exact lc_rng e mB hs hw (s1.trans s2) he fun p ys H' hp s h r => q _ _ s ⟨p, ys, rfl, hp, h, r⟩
theorem gv_lcR1 {ta : TE} {m : Nat} (e : Nat → β) (mB : TM RB) (ha : Gv ta σ H fun _ v => v = .int m) (hs : m ≤ 100000) (hw : ∀ x, wipe ((wipe σ vs).set j (some x)) vs = wipe σ vs)
    (he : ∀ c H2, c < m → Same H H2 → Gv te ((wipe σ vs).set j (some (.int (0 + c)))) H2 fun H3 y => RB H3 y (e c)) : Gv (tLc (iRng1 (tCons ta tNil)) (gName j) tYes te vs) σ H fun H1 v => LstN RB H H1 v ((List.range m).map e) := fun Q q => by
  refine ha _ fun x H1 s1 e1 => ⟨m, by rw [e1], by omega, by omega, ?_⟩
  have : ((m : Int)).toNat = m := by omega
  rw [this]
  exact lc_rng (lo := 0) e mB hs hw s1 he fun p ys H' hp s h r => q _ _ s ⟨p, ys, rfl, hp, h, r⟩
/-- what is walked in the inner for: a list that is new, or a tuple -/
def InV (b : Bool) (K : PySem.W.Frag) (RB : Hp → V → β → Prop) (D : Addr) (H : Hp) (p : Addr) (xs : List V) (bs : List β) : Prop := P2 (RB H) xs bs ∧ ((b = false ∧ H p = some (.lst xs) ∧ p ≠ D) ∨ (b = true ∧ SqT K H p xs))
def ItB (b : Bool) (K : PySem.W.Frag) (p : Addr) : It := if b = true then Itt K p else Itl K p
theorem walk_in (b : Bool) (p D : Addr) (xs : List V) : Walk (ItB b K p) xs.length (fun H => ∃ bs, InV b K RB D H p xs bs) (YAt xs) := by
  cases b with
  | true =>
    have w := walk_tup (K := K) (a := p) (xs := xs)
    have g : ∀ H, (∃ bs, InV true K RB D H p xs bs) → SqT K H p xs := fun H ⟨_, _, h⟩ => h.elim (fun z => by cases z.1) fun z => z.2
    exact ⟨fun i H hi h => w.goes i H hi (g H h), fun H h => w.stops H (g H h), fun i H x H' hi h y => w.yields i H x H' hi (g H h) y⟩
  | false =>
    have w := walk_list (K := K) (a := p) (xs := xs)
    have g : ∀ H, (∃ bs, InV false K RB D H p xs bs) → SqL K H p xs := fun H ⟨_, _, h⟩ => h.elim (fun z => SqL.of z.2.1) fun z => by cases z.1
    exact ⟨fun i H hi h => w.goes i H hi (g H h), fun H h => w.stops H (g H h), fun i H x H' hi h y => w.yields i H x H' hi (g H h) y⟩
/-- [y for x in a tuple for y in ..] -/
theorem lc2_do (b : Bool) (as : List α) (g : α → List β) {i1 : TI} (mA : TM RA) (mB : TM RB) (hl : Gv tl σ H fun H1 v => SqTV K RA H1 v as) (hs : as.length ≤ 100000) (hs2 : ((as.map g).flatten).length ≤ 100000)
    (hw : ∀ x, wipe ((wipe σ vs).set j (some x)) vs = wipe σ vs) (hw1 : ∀ x y, wipe ((wipe ((wipe σ vs).set j (some x)) vs1).set j1 (some y)) vs1 = wipe ((wipe σ vs).set j (some x)) vs1) (hj1 : ∀ x y, ((wipe ((wipe σ vs).set j (some x)) vs1).set j1 (some y))[j1]? = some (some y))
    (hi : ∀ x c H2 D, c ∈ as → Same H H2 → RA H2 x c → H D = none → (∃ o, H2 D = some o) → ∀ R : It → Hp → Prop, (∀ p xs H3, Same H2 H3 → InV b K RB D H3 p xs (g c) → R (ItB b K p) H3) → i1 ((wipe σ vs).set j (some x)) H2 R)
    : Gv (tLc2 (iTup K tl) (gName j) tYes i1 (gName j1) tYes (tVar j1) vs vs1) σ H fun H1 v => LstN RB H H1 v ((as.map g).flatten) := by
  refine fun Q q => hl _ fun v H1 s1 ⟨a, xs, ev, hx, hr⟩ => ⟨a, ev, ⟨xs, hx⟩, fun D hD => ?_⟩
  have hn : xs.length = as.length := hr.len
  have big : (100000 : Nat) ≤ sizeLine := by decide
  refine ⟨fun i m H' => m = xs.length - i ∧ i ≤ xs.length ∧ Same H1 H' ∧ ∃ ys, H' D = some (.lst ys) ∧ P2 (RB H') ys ((as.take i).map g).flatten, ⟨xs.length, by simp, Nat.zero_le _, same_new hD _, [], upd_same, by simp; exact .nil⟩, ?_⟩
  rintro i m H2 ⟨rfl, hi', sm, ys, hy, ry⟩
  have w := walk_tup (K := K) (a := a) (xs := xs)
  have hq2 : SqT K H2 a xs := same_t sm hx
  by_cases hlt : i < xs.length
  · refine .inr ⟨w.goes i H2 hlt hq2, fun H' => Same H1 H' ∧ ∃ ys, H' D = some (.lst ys) ∧ P2 (RB H') ys ((as.take (i + 1)).map g).flatten, fun H' p => ⟨xs.length - (i + 1), by omega, rfl, hlt, p⟩, fun x H3 y => ?_⟩
    obtain ⟨e3, hxi⟩ := w.yields i H2 x H3 hlt hq2 y
    have e3 := e3.symm
    subst e3
    obtain ⟨c, hc, rc⟩ := hr.get hxi
    have hcm : c ∈ as := List.mem_of_getElem? hc
    have tk : (as.take (i + 1)).map g = (as.take i).map g ++ [g c] := by rw [List.take_add_one, hc]; simp
    have small : (((as.take i).map g).flatten ++ g c).length ≤ 100000 := by
      have e1 : (as.map g).flatten = ((as.take (i + 1)).map g).flatten ++ ((as.drop (i + 1)).map g).flatten := by rw [← List.flatten_append, ← List.map_append, List.take_append_drop]
      rw [e1, tk, List.flatten_append] at hs2
      simp only [List.flatten_cons, List.flatten_nil, List.append_nil, List.length_append] at hs2 ⊢
      omega
    refine ⟨hw x, tyes_if ?_⟩
    refine hi x c H2 D hcm (s1.trans sm) (mA.same sm rc) (s1.free hD) ⟨_, hy⟩ _ fun p zs H4 s4 ⟨rz, hz⟩ => ?_
    have hnz := rz.len
    refine ⟨fun jj k H' => k = zs.length - jj ∧ jj ≤ zs.length ∧ Same H1 H' ∧ InV b K RB D H' p zs (g c) ∧ ∃ ys, H' D = some (.lst ys) ∧ P2 (RB H') ys (((as.take i).map g).flatten ++ (g c).take jj), ⟨zs.length, by simp, Nat.zero_le _, sm.trans s4, ⟨rz, hz⟩, ys, s4 _ _ hy, by simpa using ry.imp fun _ _ k => mB.same s4 k⟩, ?_⟩
    rintro jj k H5 ⟨rfl, hj, s5, ⟨rz5, hz5⟩, us, hu, ru⟩
    have w1 := walk_in (K := K) (RB := RB) b p D zs
    have hq5 : ∃ bs, InV b K RB D H5 p zs bs := ⟨_, rz5, hz5⟩
    by_cases hlt1 : jj < zs.length
    · refine .inr ⟨w1.goes jj H5 hlt1 hq5, fun H' => Same H1 H' ∧ InV b K RB D H' p zs (g c) ∧ ∃ ys, H' D = some (.lst ys) ∧ P2 (RB H') ys (((as.take i).map g).flatten ++ (g c).take (jj + 1)), fun H' p => ⟨zs.length - (jj + 1), by omega, rfl, hlt1, p⟩, fun y H6 yy => ?_⟩
      obtain ⟨e6, hyj⟩ := w1.yields jj H5 y H6 hlt1 hq5 yy
      have e6 := e6.symm
      subst e6
      obtain ⟨b, hb, rb⟩ := rz5.get hyj
      have tk1 : (g c).take (jj + 1) = (g c).take jj ++ [b] := by rw [List.take_add_one, hb]; rfl
      have ul : us.length < sizeLine := by
        have e1 := ru.len
        have e2 : ((g c).take jj).length < (g c).length := by rw [List.length_take]; omega
        rw [List.length_append] at e1 small
        omega
      refine ⟨hw1 x y, tyes_if ?_⟩
      refine ⟨y, hj1 x y, us, hu, ul, same_mut s5 hD, ⟨rz5.imp fun _ _ k => mB _ _ _ _ (tups_lst hu) k, ?_⟩, us ++ [y], upd_same, ?_⟩
      · rcases hz5 with ⟨h0, h1, h2⟩ | ⟨h0, h1⟩
        · exact .inl ⟨h0, by rw [upd_ne h2]; exact h1, h2⟩
        · refine .inr ⟨h0, ?_⟩
          rcases h1 with (h1 | ⟨o, h1⟩) | h1
          · exact .inl (.inl (by rw [upd_ne (fun z => by rw [z, hu] at h1; cases h1)]; exact h1))
          · exact .inl (.inr ⟨o, by rw [upd_ne (fun z => by rw [z, hu] at h1; cases h1)]; exact h1⟩)
          · exact .inr h1
      · rw [tk1, ← List.append_assoc]
        exact (ru.imp fun _ _ k => mB _ _ _ _ (tups_lst hu) k).app (.cons (mB _ _ _ _ (tups_lst hu) rb) .nil)
    · have e : jj = zs.length := by omega
      subst e
      refine .inl ⟨w1.stops H5 hq5, s5, us, hu, ?_⟩
      have e5 : (g c).take zs.length = g c := List.take_of_length_le (by omega)
      rw [e5] at ru
      rw [tk, List.flatten_append, List.flatten_cons, List.flatten_nil, List.append_nil]
      exact ru
  · have e : i = xs.length := by omega
    subst e
    refine .inl ⟨w.stops H2 hq2, q _ _ (s1.trans sm) ⟨D, ys, rfl, s1.free hD, hy, ?_⟩⟩
    rw [List.take_of_length_le (by omega)] at ry
    exact ry
/-- the inner for over new lists -/
theorem gv_lc2L (as : List α) (g : α → List β) (mA : TM RA) (mB : TM RB) (hl : Gv tl σ H fun H1 v => SqTV K RA H1 v as) (hs : as.length ≤ 100000) (hs2 : ((as.map g).flatten).length ≤ 100000)
    (hw : ∀ x, wipe ((wipe σ vs).set j (some x)) vs = wipe σ vs) (hw1 : ∀ x y, wipe ((wipe ((wipe σ vs).set j (some x)) vs1).set j1 (some y)) vs1 = wipe ((wipe σ vs).set j (some x)) vs1) (hj1 : ∀ x y, ((wipe ((wipe σ vs).set j (some x)) vs1).set j1 (some y))[j1]? = some (some y))
    (he : ∀ x c H2, c ∈ as → Same H H2 → RA H2 x c → Gv te1 ((wipe σ vs).set j (some x)) H2 fun H3 y => LstN RB H2 H3 y (g c)) :
    Gv (tLc2 (iTup K tl) (gName j) tYes (iList K te1) (gName j1) tYes (tVar j1) vs vs1) σ H fun H1 v => LstN RB H H1 v ((as.map g).flatten) :=
  lc2_do false as g mA mB hl hs hs2 hw hw1 hj1 fun x c H2 D hc s r _ ⟨o, hD⟩ R k => he x c H2 hc s r _ fun y H3 s3 ⟨p, ys, e, hn, hp, rr⟩ => ⟨p, e, ⟨ys, SqL.of hp⟩, k p ys H3 s3 ⟨rr, .inl ⟨rfl, hp, fun z => by rw [z, hD] at hn; cases hn⟩⟩⟩
/-- the inner for over tuples -/
theorem gv_lc2T (as : List α) (g : α → List β) (mA : TM RA) (mB : TM RB) (hl : Gv tl σ H fun H1 v => SqTV K RA H1 v as) (hs : as.length ≤ 100000) (hs2 : ((as.map g).flatten).length ≤ 100000)
    (hw : ∀ x, wipe ((wipe σ vs).set j (some x)) vs = wipe σ vs) (hw1 : ∀ x y, wipe ((wipe ((wipe σ vs).set j (some x)) vs1).set j1 (some y)) vs1 = wipe ((wipe σ vs).set j (some x)) vs1) (hj1 : ∀ x y, ((wipe ((wipe σ vs).set j (some x)) vs1).set j1 (some y))[j1]? = some (some y))
    (he : ∀ x c H2, c ∈ as → Same H H2 → RA H2 x c → Gv te1 ((wipe σ vs).set j (some x)) H2 fun H3 y => SqTV K RB H3 y (g c)) :
    Gv (tLc2 (iTup K tl) (gName j) tYes (iTup K te1) (gName j1) tYes (tVar j1) vs vs1) σ H fun H1 v => LstN RB H H1 v ((as.map g).flatten) :=
  lc2_do true as g mA mB hl hs hs2 hw hw1 hj1 fun x c H2 D hc s r _ _ R k => he x c H2 hc s r _ fun y H3 s3 ⟨p, ys, e, hp, rr⟩ => ⟨p, e, ⟨ys, hp⟩, k p ys H3 s3 ⟨rr, .inr ⟨rfl, hp⟩⟩⟩
end
/-! ### sorted -/
section
variable {α : Type} {K : PySem.W.Frag} {te : TE} {σ : L2.St} {H : Hp} {R : Hp → V → α → Prop} {d : α → PyData}
theorem P2.zipmap {β γ : Type} {R : β → α → Prop} {xs : List β} {as : List α} (h : P2 R xs as) (f : α → γ) : xs.zip (as.map f) = (xs.zip as).map fun p => (p.1, f p.2) := by
  induction h with
  | nil => rfl
  | cons _ _ ih => simp only [List.map_cons, List.zip_cons_cons, ih]
theorem P2.zmem {β : Type} {R : β → α → Prop} {xs : List β} {as : List α} (h : P2 R xs as) : ∀ p ∈ xs.zip as, R p.1 p.2 := by
  induction h with
  | nil => intro p hp; cases hp
  | cons r _ ih =>
    intro p hp
    rw [List.zip_cons_cons] at hp
    rcases List.mem_cons.mp hp with e | hp
    · subst e; exact r
    · exact ih p hp
theorem P2.ofz {β : Type} {R : β → α → Prop} : ∀ {w : List (β × α)}, (∀ p ∈ w, R p.1 p.2) → P2 R (w.map (·.1)) (w.map (·.2))
  | [], _ => .nil
  | p :: w, h => .cons (h p List.mem_cons_self) (P2.ofz fun q hq => h q (List.mem_cons_of_mem _ hq))
theorem P2.sndz {β : Type} {R : β → α → Prop} {xs : List β} {as : List α} (h : P2 R xs as) : (xs.zip as).map (·.2) = as := List.map_snd_zip (by rw [h.len]; exact Nat.le_refl _)
theorem SqLV.q {H : Hp} {v : V} {as : List α} (h : SqLV K R H v as) : SqV K R H v as := let ⟨p, xs, e, a, b⟩ := h; ⟨p, xs, e, .inl a, b⟩
theorem SqTV.q {H : Hp} {v : V} {as : List α} (h : SqTV K R H v as) : SqV K R H v as := let ⟨p, xs, e, a, b⟩ := h; ⟨p, xs, e, .inr a, b⟩
/-- sorted by the data d -/
def Srt (d : α → PyData) (as : List α) : Prop := as.Pairwise fun a b => PySem.W.dataLt (d b) (d a) = false
theorem gv_sorted (Pa : List α → Prop) (mR : TM R) (hl : Gv te σ H fun H1 v => ∃ as, Pa as ∧ SqV K R H1 v as) (hd : ∀ as v a H1, Pa as → a ∈ as → R H1 v a → Dp K H1 v (d a)) (hal : ∀ as, Pa as → PySem.W.AllAlike (as.map d)) (hk : ∀ as, Pa as → PySem.W.Sortable (as.map d))
    (hdep : ∀ as, Pa as → ∀ a ∈ as, (d a).depth ≤ 60) : Gv (tCB (rSortQ K) (tCons te tNil)) σ H fun H1 v => ∃ as bs, Pa as ∧ bs.Perm as ∧ Srt d bs ∧ LstN R H H1 v bs := fun Q q => by
  refine r_b1 (hl _ fun v H1 s1 ⟨as, pa, p, xs, e, hs, r⟩ => ⟨p, xs, as.map d, by rw [e], hs, ?_, hal as pa, hk as pa, fun x hx => ?_, ?_⟩)
  · have : ∀ {xs : List V} {bs : List α}, P2 (R H1) xs bs → (∀ a ∈ bs, a ∈ as) → DpAll K H1 xs (bs.map d) := by
      intro xs bs h hm
      induction h with
      | nil => exact .nil
      | cons r _ ih => exact .cons (hd as _ _ _ pa (hm _ List.mem_cons_self) r) (ih fun a ha => hm a (List.mem_cons_of_mem _ ha))
    exact this r fun _ h => h
  · obtain ⟨a, ha, rfl⟩ := List.mem_map.mp hx
    exact hdep as pa a ha
  · intro p' zs pm pw hp
    rw [r.zipmap d] at pm
    obtain ⟨w, pw1, rfl⟩ := perm_map_ex _ pm
    have hw : ∀ q ∈ w, R H1 q.1 q.2 := fun q hq => r.zmem q (pw1.mem_iff.mp hq)
    refine q _ _ (s1.trans (same_new hp _)) ⟨as, w.map (·.2), pa, ?_, ?_, p', w.map (·.1), rfl, s1.free hp, ?_, (P2.ofz hw).imp fun _ _ k => mR.same (same_new hp _) k⟩
    · have := pw1.map (·.2)
      rwa [r.sndz] at this
    · exact List.pairwise_map.mpr (List.pairwise_map.mp pw)
    · have e2 : (w.map fun p => (p.1, d p.2)).map (·.1) = w.map (·.1) := by rw [List.map_map]; rfl
      rw [e2]
      exact upd_same
end
section
variable {nm : Nat → Str} {n : Nat}
theorem alike_dN (l : List Nat) : PySem.W.AllAlike (l.map (dN nm)) := PySem.W.AllAlike.of fun _ _ => by simp [PySem.W.alike]
theorem sortable_dN (l : List Nat) : PySem.W.Sortable (l.map (dN nm)) := PySem.W.Sortable.others fun _ => ⟨by simp, by simp⟩
theorem alikeAll_dN : ∀ l m : List Nat, PySem.W.alikeAll (l.map (dN nm)) (m.map (dN nm)) = true
  | [], _ => by simp [PySem.W.alikeAll]
  | _ :: _, [] => by simp [PySem.W.alikeAll]
  | a :: l, b :: m => by simp only [List.map_cons, PySem.W.alikeAll, alikeAll_dN l m, PySem.W.alike, Bool.and_self]
theorem alike_dL (o : List (List Nat)) : PySem.W.AllAlike (o.map (dL nm)) := PySem.W.AllAlike.of fun l m => by simp only [dL, PySem.W.alike]; exact alikeAll_dN l m
theorem sortable_dL {o : List (List Nat)} (h : ∀ l ∈ o, l ≠ []) : PySem.W.Sortable (o.map (dL nm)) := .inl fun d hd => by
  obtain ⟨l, hl, rfl⟩ := List.mem_map.mp hd
  cases l with
  | nil => exact (h _ hl rfl).elim
  | cons x l => exact ⟨dN nm x, l.map (dN nm), rfl⟩
/-- sorted names rise -/
theorem srt_names (N : Nm nm n) {l : List Nat} (hl : ∀ x ∈ l, x < n) (hn : l.Nodup) (h : Srt (dN nm) l) : l.Pairwise (· < ·) := by
  refine List.Pairwise.imp_of_mem (fun {a b} ha hb e => ?_) (h.and hn)
  have e1 := e.1
  rw [PySem.W.dataLt_str] at e1
  rcases Nat.lt_trichotomy a b with k | k | k
  · exact k
  · exact (e.2 k).elim
  · have := N.lt b a k (hl a ha)
    rw [decide_eq_true this] at e1; cases e1
end
end Jw
namespace Jw
open PySem PySem.Spec PyProof.Rows L2 Jt JH
section
variable {K : PySem.W.Frag} {nm : Nat → Str} {n : Nat} {H : Hp} {v : V}
def OTr (nm : Nat → Str) (H : Hp) (v : V) : Option Tr → Prop
  | none => v = .non
  | some t => TrV nm H v t
theorem tm_otr : TM (OTr nm) := fun H H' v o s h => by
  cases o with
  | none => exact h
  | some t => exact tm_tr _ _ _ _ s h
theorem dp_trs {as : List Tr} (h : LstV (TrV nm) H v as) : Dp K H v (.list (as.map (dT nm))) := by
  obtain ⟨p, xs, rfl, hp, r⟩ := h
  exact .lst (SqL.of hp) (dp_all r fun _ _ => dp_tr)
theorem sh_trs (N : Nm nm n) {as : List Tr} (h : ∀ t ∈ as, Wf n t) : SeqAt.shaped (.list (as.map (dT nm))) = true := by
  refine shaped_of (by simp only [PyData.canLay0]; exact lay_map _ as fun t ht => lay_dT N (h t ht).lt) ?_
  have := depth_map (dT nm) 9 as fun t ht => Nat.le_trans (depth_dT t) ((h t ht).sz N.few)
  simp only [PyData.depth]; omega
end
end Jw
namespace Jw
open PySem PySem.Spec PyProof.Rows L2 Jt JH
theorem tlens {K : PySem.W.Frag} {nm : Nat → Str} {H : Hp} {xs : List V} {as : List (List Nat)} (h : P2 (LotV nm H) xs as) : P2 (TLen K H) xs (as.map List.length) := by
  induction h with
  | nil => exact .nil
  | cons r _ ih =>
    obtain ⟨p', e', h'⟩ := r
    exact .cons ⟨p', _, e', SqT.of h', by simp⟩ ih
/-! ### binding, by the number of parameters -/
section
variable {x : Str} {st : Stmt} {p1 p2 p3 p4 p5 : Str}
theorem bd1 (h : ∀ (kV doc pm : Value) (an : Option Addr) (cdv ct a : Value), bindArgs (PySem.W.fnOf x x (defArgs st) (defBody st) (defScope st) .none kV doc pm an cdv ct) ⟨[a], []⟩ = pure ([p1].zip [a])) (kV doc pm : Value) (an : Option Addr) (cdv ct : Value) (us : List Value) (hl : us.length = [p1].length) :
    bindArgs (PySem.W.fnOf x x (defArgs st) (defBody st) (defScope st) .none kV doc pm an cdv ct) ⟨us, []⟩ = pure ([p1].zip us) := by
  match us, hl with
  | [a], _ => exact h ..
theorem bd2 (h : ∀ (kV doc pm : Value) (an : Option Addr) (cdv ct a b : Value), bindArgs (PySem.W.fnOf x x (defArgs st) (defBody st) (defScope st) .none kV doc pm an cdv ct) ⟨[a, b], []⟩ = pure ([p1, p2].zip [a, b])) (kV doc pm : Value) (an : Option Addr) (cdv ct : Value) (us : List Value) (hl : us.length = [p1, p2].length) :
    bindArgs (PySem.W.fnOf x x (defArgs st) (defBody st) (defScope st) .none kV doc pm an cdv ct) ⟨us, []⟩ = pure ([p1, p2].zip us) := by
  match us, hl with
  | [a, b], _ => exact h ..
theorem bd3 (h : ∀ (kV doc pm : Value) (an : Option Addr) (cdv ct a b c : Value), bindArgs (PySem.W.fnOf x x (defArgs st) (defBody st) (defScope st) .none kV doc pm an cdv ct) ⟨[a, b, c], []⟩ = pure ([p1, p2, p3].zip [a, b, c])) (kV doc pm : Value) (an : Option Addr) (cdv ct : Value) (us : List Value) (hl : us.length = [p1, p2, p3].length) :
    bindArgs (PySem.W.fnOf x x (defArgs st) (defBody st) (defScope st) .none kV doc pm an cdv ct) ⟨us, []⟩ = pure ([p1, p2, p3].zip us) := by
  match us, hl with
  | [a, b, c], _ => exact h ..
theorem bd4 (h : ∀ (kV doc pm : Value) (an : Option Addr) (cdv ct a b c d : Value), bindArgs (PySem.W.fnOf x x (defArgs st) (defBody st) (defScope st) .none kV doc pm an cdv ct) ⟨[a, b, c, d], []⟩ = pure ([p1, p2, p3, p4].zip [a, b, c, d])) (kV doc pm : Value) (an : Option Addr) (cdv ct : Value) (us : List Value) (hl : us.length = [p1, p2, p3, p4].length) :
    bindArgs (PySem.W.fnOf x x (defArgs st) (defBody st) (defScope st) .none kV doc pm an cdv ct) ⟨us, []⟩ = pure ([p1, p2, p3, p4].zip us) := by
  match us, hl with
  | [a, b, c, d], _ => exact h ..
end
end Jw
end

section
set_option Elab.async false
set_option linter.all false
set_option maxRecDepth 100000
set_option maxHeartbeats 4000000
/-! The trees: is_name .. names_in. -/
namespace Jw
open PySem PySem.Spec PyProof.Rows L2 Jt JH
/-! ### isinstance -/
def isLf : Tr → Bool
  | .lf _ => true
  | .fk _ _ => false
section
variable {K : PySem.W.Frag} {te : TE} {σ : L2.St} {H : Hp} {nm : Nat → Str} {n : Nat}
theorem gv_isStr {t : Tr} (h : Gv te σ H fun H1 v => TrV nm H1 v t) : Gv (tCB (rIsi K) (tCons te (tCons (tC (.ty "str")) tNil))) σ H fun _ r => r = .bl (isLf t) := fun Q q => by
  refine r_b2 (h _ fun v H1 s1 r => ?_)
  cases r with
  | lf i => exact ⟨_, _, _, _, true, rfl, .ty _, .base (.str _), kit_ty (by decide +kernel), q _ _ s1 rfl⟩
  | fk e _ _ => exact ⟨_, _, _, _, false, rfl, .ty _, .base (.tup e), kit_ty (by decide +kernel), q _ _ s1 rfl⟩
theorem gv_isTup {R : Hp → V → Prop} (h : Gv te σ H fun H1 v => ∃ p xs, v = .ref p ∧ H1 p = some (.tup xs)) : Gv (tCB (rIsi K) (tCons te (tCons (tC (.ty "tuple")) tNil))) σ H fun _ r => r = .bl true := fun Q q => by
  refine r_b2 (h _ fun v H1 s1 ⟨p, xs, e, hp⟩ => ?_)
  subst e
  exact ⟨_, _, _, _, true, rfl, .ty _, .base (.tup hp), kit_ty (by decide +kernel), q _ _ s1 rfl⟩
end
section
variable {β : Type} {K : PySem.W.Frag} {te tl : TE} {vs : List Nat} {σ : L2.St} {H : Hp} {Q : VK} {j : Nat} {RB : Hp → V → β → Prop}
/-- [e for c in a text] -/
theorem r_lcS {z : Str} (e : Nat → β) (mB : TM RB) (hl : Gv tl σ H fun _ v => v = .str z) (hz : z.length ≤ 1000) (hw : ∀ x, wipe ((wipe σ vs).set j (some x)) vs = wipe σ vs)
    (he : ∀ c H2, c ∈ z.cps.toList → Same H H2 → Gv te ((wipe σ vs).set j (some (.str ⟨#[c]⟩))) H2 fun H3 y => RB H3 y (e c))
    (hd : ∀ p ys H', H p = none → Same H H' → H' p = some (.lst ys) → P2 (RB H') ys (z.cps.toList.map e) → Q (.ref p) H') : tLc (iStr tl) (gName j) tYes te vs σ H Q := by
  have hs : z.cps.size = z.length := rfl
  refine hl _ fun v H1 s1 ev => ⟨z, ev, ?_⟩
  refine lc_do (walk_str (z := z)) z.cps.toList (by simp) (by omega) (fun _ => true) e mB (fun _ _ => trivial) (fun i a x H2 H3 hj s y => ?_) fun p ys H' hp s hp' hr => hd p ys H' (s1.free hp) (s1.trans s) hp' (by rw [filt_true] at hr; exact hr)
  obtain ⟨rfl, c, hc, rfl⟩ := y
  have e1 : c = a := by rw [← Array.getElem?_toList, hj] at hc; exact (Option.some.inj hc).symm
  subst e1
  exact ⟨Same.refl _, fun Qg k => k _ _ (Same.refl _) (hw _) (fun _ q => q _ (Same.refl _)) fun _ H5 s5 => he c H5 (List.mem_of_getElem? hj) ((s1.trans s).trans s5)⟩
end
/-! ### is_name -/
def spIsName (nm : Nat → Str) (n : Nat) : Sp := Pur (ι := Nat) (fun i vs _ => vs = [sv nm i] ∧ i < n) (fun _ _ _ r => r = .bl true)
section
variable {P : Program} {w : World} {K : PySem.W.Frag} {mg : Str → Option Value} {base : Heap} {f : Addr} {fd : FuncData} {nm : Nat → Str} {n : Nat}
theorem sc_is_name : FnScope ["thing", "sign"] ["thing"] (defScope s_is_name) := ⟨rfl, rfl, rfl, by decide +kernel, rfl, by decide +kernel, by decide +kernel⟩
theorem ok_is_name (F : FnD K "is_name" s_is_name f fd) (B : Bi mg) (N : Nm nm n) {u1 u2 : Tok} (G_LETTERS : mg "LETTERS" = some (.str "abcdefghijklmnopqrstuvwxyz" u1)) (G_LONGEST : mg "LONGEST" = some (.int 8 u2)) : FnOk P w K mg base CX0 1 f fd ["thing"] (spIsName nm n) := by
  refine F.ok sc_is_name (fun vs H Q E h => ?_) (fun cdv A outer s H vs Q E hr h => ?_)
  · obtain ⟨i, ⟨rfl, _⟩, _⟩ := h; rfl
  · obtain ⟨i, ⟨rfl, hi⟩, q⟩ := h
    refine ⟨_, PSs.nox (pss_one (ps_ret (pe_and (pe_callB (isiQ K) (by rfl) B.isinstance boot_isinstance (pa_cons (pv 0) (pa_cons (pe_bltn (v := .ty "str") (by rfl) B.str boot_str rfl) pa_nil))) (pe_and (pe_chain op_le op_le (pe_int) (pe_callB call_len_str (by rfl) B.len boot_len (pa_cons (pv 0) pa_nil)) (pe_glob (v := .int 8) (by rfl) G_LONGEST ⟨_, rfl⟩)) (pe_one (pe_callB (allQ K) (by rfl) B.all boot_all (pa_cons (pe_lc (own := [("sign", 1)]) (g := gName 1) rfl sc_is_name.nd (pi_str (pv 0)) (blkOk_by (N := ["thing", "sign"]) (sc := defScope s_is_name) (by decide +kernel)) (fun _ _ _ _ _ => (pg_name (i := 1) sc_is_name.nd rfl (by first | exact Or.inl rfl | exact Or.inr rfl))) (fun _ _ _ _ _ => pts_nil) (fun _ _ _ _ _ => (pe_cmpR op_in_sign (pv 1) (pe_glob (v := .str "abcdefghijklmnopqrstuvwxyz") (by rfl) G_LETTERS ⟨_, rfl⟩) (by rfl)))) pa_nil))))))), ?_⟩
    have hlen : (nm i).length = (nm i).cps.size := rfl
    obtain ⟨l1, l2⟩ := N.len i hi
    have hs := sizeLine_eq
    refine r_ret (r_andV (r_b2 (r_var rfl (r_c ⟨_, _, _, _, true, rfl, .ty _, .base (.str _), kit_ty (by decide +kernel), true, rfl, iteT (r_andV ?_)⟩))))
    refine r_c (r_b1 (r_var rfl ⟨nm i, rfl, by omega, _, _, rfl, rfl, true, congrArg V.bl (decide_eq_true (by omega)), iteT (r_c ⟨_, _, rfl, rfl, true, congrArg V.bl (decide_eq_true (by omega)), iteT ?_⟩)⟩))
    refine r_b1 (r_lcS (z := nm i) (fun _ => true) tm_bl (gv_var rfl rfl) (by omega) (fun _ => rfl) (fun c H2 hm s2 Q' q' => ?_) fun p ys H' hp s hp' hr => ?_)
    · have hc2 := N.low i hi c hm
      refine r_op (r_var rfl (r_c ⟨c, _, rfl, rfl, q' _ _ (Same.refl _) (congrArg V.bl (decide_eq_true ?_))⟩))
      have : ∀ c, c < 123 → 97 ≤ c → c ∈ ("abcdefghijklmnopqrstuvwxyz" : Str).cps.toList := by decide +kernel
      exact this c (by omega) hc2.1
    · rw [bls hr] at hp'
      refine ⟨p, _, rfl, SqL.of hp', ?_⟩
      have : (((nm i).cps.toList.map fun _ => true).all id) = true := by simp
      rw [this]
      exact q _ _ s rfl
/-! ### is_lot -/
def spIsLot (nm : Nat → Str) (n : Nat) : Sp := Pur (ι := List Nat) (fun l vs H => ∃ v, vs = [v] ∧ LotV nm H v l ∧ l ≠ [] ∧ l.Pairwise (· < ·) ∧ ∀ x ∈ l, x < n) (fun _ _ _ r => r = .bl true)
theorem sc_is_lot : FnScope ["thing", "one", "k"] ["thing"] (defScope s_is_lot) := ⟨rfl, rfl, rfl, by decide +kernel, rfl, by decide +kernel, by decide +kernel⟩
theorem ok_is_lot (F : FnD K "is_lot" s_is_lot f fd) (B : Bi mg) (N : Nm nm n) (c_is_name : Cal P w K mg base 1 "is_name" ["thing"] (spIsName nm n)) : FnOk P w K mg base CX0 2 f fd ["thing"] (spIsLot nm n) := by
  refine F.ok sc_is_lot (fun vs H Q E h => ?_) (fun cdv A outer s H vs Q E hr h => ?_)
  · obtain ⟨l, ⟨v, rfl, _⟩, _⟩ := h; rfl
  · obtain ⟨l, ⟨v, rfl, hv, hne, hp, hl⟩, q⟩ := h
    have hu := hr.units
    refine ⟨_, PSs.nox (pss_cons (ps_if ((pw_or (pt_not (pt_val (pe_callB (isiQ K) (by rfl) B.isinstance boot_isinstance (pa_cons (pv 0) (pa_cons (pe_bltn (v := .ty "tuple") (by rfl) B.tuple boot_tuple rfl) pa_nil))))) (pw_or (pt_cmpR (eqD K hu) (pv 0) (pe_tup pa_nil) (by rfl)) (pw_or1 (pt_not (pt_val (pe_callB (allQ K) (by rfl) B.all boot_all (pa_cons (pe_lc (own := [("one", 1)]) rfl sc_is_lot.nd (piT K (pv 0)) (blkOk_by (N := ["thing", "one", "k"]) (sc := defScope s_is_lot) (by decide +kernel)) (fun _ _ _ _ _ => (pg_name (i := 1) sc_is_lot.nd rfl (by first | exact Or.inl rfl | exact Or.inr rfl))) (fun _ _ _ _ _ => pts_nil) (fun _ _ _ _ _ => (pe_cal c_is_name (hr.mono (by first | decide | omega)) (pa_cons (pv 1) pa_nil)))) pa_nil))))))).pt) (pss_one (ps_ret (pe_bl))) pss_nil)
      (pss_one (ps_ret (pe_callB (allQ K) (by rfl) B.all boot_all (pa_cons (pe_lc (own := [("k", 2)]) rfl sc_is_lot.nd (pi_range2 (by rfl) B.range (pa_cons (pe_int) (pa_cons (pe_callB (lenQ K) (by rfl) B.len boot_len (pa_cons (pv 0) pa_nil)) pa_nil))) (blkOk_by (N := ["thing", "one", "k"]) (sc := defScope s_is_lot) (by decide +kernel)) (fun _ _ _ _ _ => (pg_name (i := 2) sc_is_lot.nd rfl (by first | exact Or.inl rfl | exact Or.inr rfl))) (fun _ _ _ _ _ => pts_nil) (fun _ _ _ _ _ => (pe_cmpR op_lt_str (pe_ix (ixT K) (pv 0) (pe_op op_sub (pv 2) (pe_int)) (fun _ _ => rfl)) (pe_ix (ixT K) (pv 0) (pv 2) (fun _ _ => rfl)) (by rfl)))) pa_nil))))), ?_⟩
    obtain ⟨a, xs, rfl, ha, r⟩ := lot_tup.mp hv
    have hlen : l.length ≤ 5 := Nat.le_trans (len_lt (srt_nodup hp) hl) N.few
    refine r_seq (r_if (gt_use (b := false) (gt_or (b := false) (gt_not (b := true) (gt_gv (gv_isTup (R := fun _ _ => True) (gv_var rfl ⟨a, xs, rfl, ha⟩)))) (c := false) fun H1 s1 => gt_or (b := false) (gt_test ?_) fun H2 s2 => gt_not (b := true) (gt_gv ?_)) fun H1 s1 => iteF (r_next ?_)))
    · refine gv_imp (gv_eqD (da := dL nm l) (db := .tuple []) (gv_var (R := fun H v => LotV nm H v l) rfl (tm_lot.same s1 hv)) (fun H2 s2 => gv_unit (α := Nat) (RA := NmV nm)) (fun x y H2 H3 s2 rx s3 ⟨p, ys, ey, hy, ry⟩ => ⟨dp_lot (tm_lot.same s3 rx), by rw [ey]; cases ry; exact .tup (SqT.of hy) .nil⟩) (sh_dL N hl) sh_nil) fun r H2 _ e => ?_
      rw [e]
      cases l with
      | nil => exact (hne rfl).elim
      | cons x l => simp [dL, PyData.eqv, PyData.eqvAll]
    · refine gv_imp (gv_all (bs := l.map fun _ => true) (gv_imp (gv_lcT0 (fun _ => true) (fun as => as = l) tm_nm tm_bl (gv_var rfl ⟨l, rfl, ((tm_tup tm_nm).same (s1.trans s2) ⟨a, xs, rfl, ha, r⟩).sq⟩) (fun _ e => by rw [e]; omega) (fun _ => rfl) ?_) fun r H3 _ ⟨_, e, h⟩ => by rw [e] at h; exact h.l)) fun r H3 _ e => by rw [e]; simp
      rintro _ x c H3 rfl hc s3 rx
      exact gv_call1 (gv_var rfl rx) fun y H4 s4 ry => ⟨c, ⟨by rw [show y = sv nm c from ry], hl c hc⟩, fun r H5 _ e => e⟩
    · refine r_ret (gv_use (gv_all (bs := (List.range (l.length - 1)).map fun _ => true) (gv_imp (gv_lcR2 (lo := 1) (m := l.length - 1) (fun _ => true) tm_bl (gv_c rfl) (fun H2 s2 => gv_imp (gv_len (n := l.length) (gv_var rfl ⟨a, xs, rfl, .inr (SqT.of ((s1.trans s2) _ _ ha)), r.len⟩)) fun v H3 _ e => ?_) (by omega) (by omega) (fun _ => rfl) fun c H2 hc s2 => ?_) fun r H3 _ h => h.l)) fun v H2 s2 e => q v H2 (s1.trans s2) (by rw [e]; simp))
      · have : l.length ≠ 0 := fun z => hne (List.length_eq_zero_iff.mp z)
        rw [e]; congr 1; omega
      · intro Q' q'
        have h1 : c < l.length := by omega
        have h2 : c + 1 < l.length := by omega
        have ea : H2 a = some (.tup (l.map (sv nm))) := by
          have := (s1.trans s2) _ _ ha
          rw [this]
          obtain ⟨p', e', h'⟩ := hv
          cases e'
          rw [ha] at h'; exact h'
        refine r_op (r_op (r_var rfl (r_op (r_var rfl (r_c ⟨_, _, rfl, rfl, a, _, _, sv nm l[c], rfl, rfl, SqT.of ea, ?_, ?_⟩)))))
        · have e1 : (1 + (c : Int) - 1) = (c : Int) := by omega
          rw [e1]
          exact atI_nat (by simp [h1])
        · refine r_op (r_var rfl (r_var rfl ⟨a, _, _, sv nm l[c + 1], rfl, rfl, SqT.of ea, ?_, ?_⟩))
          · have e1 : (1 + (c : Int)) = ((c + 1 : Nat) : Int) := by omega
            rw [e1]
            exact atI_nat (by simp [h2])
          · refine ⟨_, _, rfl, rfl, q' _ _ (Same.refl _) (congrArg V.bl (decide_eq_true (N.lt _ _ ?_ (hl _ (List.getElem_mem _)))))⟩
            exact List.pairwise_iff_getElem.mp hp c (c + 1) h1 h2 (by omega)
end
end Jw
end

section
set_option Elab.async false
set_option linter.all false
set_option maxRecDepth 100000
set_option maxHeartbeats 4000000
/-! The trees: first_name .. tree_to. -/
namespace Jw
open PySem PySem.Spec PyProof.Rows L2 Jt JH
section
variable {nm : Nat → Str} {H : Hp} {v : V}
theorem TrV.tup {a b : Tr} (h : TrV nm H v (.fk a b)) : TupV (TrV nm) H v [a, b] := by
  cases h with
  | fk e h1 h2 => exact ⟨_, _, rfl, e, .cons h1 (.cons h2 .nil)⟩
theorem tr_of {a b : Tr} (h : TupV (TrV nm) H v [a, b]) : TrV nm H v (.fk a b) := by
  obtain ⟨p, xs, rfl, hp, r⟩ := h
  cases r with
  | cons r1 r =>
    cases r with
    | cons r2 r =>
      cases r
      exact .fk hp r1 r2
end
/-! ### first_name -/
def spFirst (nm : Nat → Str) : Sp := Pur (ι := Tr) (fun t vs H => ∃ v, vs = [v] ∧ TrV nm H v t) (fun t _ _ r => r = sv nm t.fst)
section
variable {P : Program} {w : World} {K : PySem.W.Frag} {mg : Str → Option Value} {base : Heap} {f : Addr} {fd : FuncData} {nm : Nat → Str} {n : Nat}
theorem sc_first_name : FnScope ["tree"] ["tree"] (defScope s_first_name) := ⟨rfl, rfl, rfl, by decide +kernel, rfl, by decide +kernel, by decide +kernel⟩
theorem ok_first_name (F : FnD K "first_name" s_first_name f fd) (B : Bi mg) : FnOk P w K mg base CX0 1 f fd ["tree"] (spFirst nm) := by
  refine F.ok sc_first_name (fun vs H Q E h => ?_) (fun cdv A outer s H vs Q E hr h => ?_)
  · obtain ⟨t, ⟨v, rfl, _⟩, _⟩ := h; rfl
  · obtain ⟨t, ⟨v, rfl, hv⟩, q⟩ := h
    refine ⟨_, PSs.nox (pss_cons (ps_while PassesOwn.never (pt_not (pt_val (pe_callB (isiQ K) (by rfl) B.isinstance boot_isinstance (pa_cons (pv 0) (pa_cons (pe_bltn (v := .ty "str") (by rfl) B.str boot_str rfl) pa_nil))))) (pss_one (ps_set (i := 0) sc_first_name.nd rfl (by first | exact Or.inl rfl | exact Or.inr rfl) (pe_ix (ixT K) (pv 0) (pe_int) (fun _ _ => rfl)))))
      (pss_one (ps_ret (pv 0)))), ?_⟩
    refine r_seq ⟨fun m σ H' => Same H H' ∧ ∃ x t', σ = [some x] ∧ TrV nm H' x t' ∧ t'.fst = t.fst ∧ t'.sz = m, ⟨t.sz, Same.refl _, v, t, rfl, hv, rfl, rfl⟩, ?_⟩
    rintro m σ H' ⟨s0, x, t', rfl, hx, e1, rfl⟩
    refine gt_use (gt_not (b := isLf t') (gt_gv (gv_isStr (gv_var rfl hx)))) fun H1 s1 => ?_
    cases hx with
    | lf i =>
      refine iteF (r_ret (r_var rfl (q _ _ (s0.trans s1) ?_)))
      show sv nm i = sv nm t.fst
      rw [← e1]; rfl
    | @fk p y z a b e h1 h2 =>
      refine iteT ⟨fun σ' H'' => H'' = H1 ∧ σ' = [some y], ?_, ?_⟩
      · rintro _ _ ⟨rfl, rfl⟩
        exact ⟨a.sz, by simp only [Tr.sz]; omega, s0.trans s1, y, a, rfl, tm_tr.same s1 h1, e1, rfl⟩
      · exact r_asg (r_op (r_var rfl (r_c ⟨p, _, _, y, rfl, rfl, SqT.of (s1 _ _ e), atI_nat (j := 0) rfl, rfl, rfl⟩)))
/-! ### standing -/
def spStanding (nm : Nat → Str) (h : Nat) : Sp := Pur (ι := Tr) (fun t vs H => ∃ v, vs = [v] ∧ TrV nm H v t ∧ t.sz ≤ h ∧ t.sz ≤ 100) (fun t H0 H r => LstN (NmV nm) H0 H r t.nm)
theorem sc_standing : FnScope ["tree", "part", "name"] ["tree"] (defScope s_standing) := ⟨rfl, rfl, rfl, by decide +kernel, rfl, by decide +kernel, by decide +kernel⟩
theorem st_standing (F : FnD K "standing" s_standing f fd) (B : Bi mg) {k h : Nat} (ih : Cal P w K mg base k "standing" ["tree"] (spStanding nm h)) : FnOk P w K mg base CX0 (k + 1) f fd ["tree"] (spStanding nm (h + 1)) := by
  refine F.ok sc_standing (fun vs H Q E h => ?_) (fun cdv A outer s H vs Q E hr h => ?_)
  · obtain ⟨t, ⟨v, rfl, _⟩, _⟩ := h; rfl
  · obtain ⟨t, ⟨v, rfl, hv, hs, hs2⟩, q⟩ := h
    refine ⟨_, PSs.nox (pss_cons (ps_if (pt_val (pe_callB (isiQ K) (by rfl) B.isinstance boot_isinstance (pa_cons (pv 0) (pa_cons (pe_bltn (v := .ty "str") (by rfl) B.str boot_str rfl) pa_nil)))) (pss_one (ps_ret (pe_lst (pa_cons (pv 0) pa_nil)))) pss_nil)
      (pss_one (ps_ret (pe_lc2 (own := [("part", 1), ("name", 2)]) (vs1 := [2]) rfl sc_standing.nd (piT K (pv 0)) (blkOk_by (N := ["tree", "part", "name"]) (sc := defScope s_standing) (by decide +kernel)) (by decide) (fun _ _ _ _ _ => (pg_name (i := 1) sc_standing.nd rfl (by first | exact Or.inl rfl | exact Or.inr rfl))) (fun _ _ _ _ _ => pts_nil) (fun _ _ _ _ _ => (piL K (pe_cal ih (hr.mono (by first | decide | omega)) (pa_cons (pv 1) pa_nil)))) (fun _ _ _ _ _ => (pg_name (i := 2) sc_standing.nd rfl (by first | exact Or.inl rfl | exact Or.inr rfl))) (fun _ _ _ _ _ => pts_nil) (fun _ _ _ _ _ => (pv 2)))))), ?_⟩
    refine r_seq (r_if (gt_use (gt_gv (gv_isStr (gv_var rfl hv))) fun H1 s1 => ?_))
    cases hv with
    | lf i =>
      refine iteT (r_ret ?_)
      exact r_lst1 (r_var rfl ⟨one_line, fun p hp => q _ _ (s1.trans (same_new hp _)) ⟨p, _, rfl, s1.free hp, upd_same, .cons rfl .nil⟩⟩)
    | @fk p y z a b e h1 h2 =>
      have hv : TrV nm H (.ref p) (.fk a b) := .fk e h1 h2
      have e1 := sz_nm (.fk a b)
      have e2 := sz_nm a
      have e3 := sz_nm b
      simp only [Tr.sz, Tr.nm, List.length_append] at hs hs2 e1
      refine iteF (r_next (r_ret (gv_use (gv_imp (gv_lc2L [a, b] (fun t => t.nm) tm_tr (tm_nm (nm := nm)) (gv_var rfl (tm_tr.same s1 hv).tup.sq) (by simp) (by simp; omega) (fun _ => rfl) (fun _ _ => rfl) (fun _ _ => rfl) fun x c H2 hc s2 rx => ?_) fun r H2 s2 z => z) fun r H2 s2 z => q r H2 (s1.trans s2) ?_)))
      · refine gv_call1 (gv_var rfl rx) fun y H3 s3 ry => ⟨c, ⟨y, rfl, ry, ?_⟩, fun r H4 s4 z => z.back s3⟩
        rcases List.mem_cons.mp hc with rfl | hc
        · omega
        · rw [List.mem_singleton.mp hc]; omega
      · have : ([a, b].map fun t => t.nm).flatten = (Tr.fk a b).nm := by simp [Tr.nm]
        rw [this] at z
        exact z.back s1
theorem ok_standing (F : FnD K "standing" s_standing f fd) (B : Bi mg) (m : mg "standing" = some (.ref f)) : ∀ h, FnOk P w K mg base CX0 (h + 1) f fd ["tree"] (spStanding nm h)
  | 0 => ⟨fun vs H Q E ⟨t, ⟨v, e, _⟩, _⟩ => by rw [e]; rfl, fun _ _ _ _ _ _ _ _ _ _ _ _ _ ⟨t, ⟨_, _, _, h, _⟩, _⟩ => absurd h (by have := sz_pos t; omega)⟩
  | h + 1 => st_standing F B (cal_mk F (ok_standing F B m h) m (bd1 fun _ _ _ _ _ _ _ => by first | rfl | kernel_rfl))
/-! ### fork_of -/
def combL : List Tr → Option Tr
  | [] => none
  | [a] => some a
  | a :: b :: _ => some (mk a b)
def spFork (nm : Nat → Str) (n : Nat) : Sp := Pur (ι := List Tr) (fun as vs H => ∃ v, vs = [v] ∧ LstV (TrV nm) H v as ∧ (∀ a ∈ as, Wf n a) ∧ ((∃ a, as = [a]) ∨ ∃ a b, as = [a, b] ∧ a.fst ≠ b.fst)) (fun as _ H r => ∃ t, combL as = some t ∧ TrV nm H r t)
theorem lt_sv (N : Nm nm n) {i j : Nat} (hi : i < n) (hj : j < n) : (nm i).cps.toList < (nm j).cps.toList ↔ i < j := by
  rcases Nat.lt_trichotomy i j with h | h | h
  · exact ⟨fun _ => h, fun _ => N.lt _ _ h hj⟩
  · subst h
    exact ⟨fun h => absurd h (List.lt_irrefl _), fun h => absurd h (Nat.lt_irrefl _)⟩
  · exact ⟨fun k => absurd (List.lt_trans (N.lt _ _ h hi) k) (List.lt_irrefl _), fun k => absurd k (by omega)⟩
theorem sc_fork_of : FnScope ["parts"] ["parts"] (defScope s_fork_of) := ⟨rfl, rfl, rfl, by decide +kernel, rfl, by decide +kernel, by decide +kernel⟩
theorem ok_fork_of (F : FnD K "fork_of" s_fork_of f fd) (B : Bi mg) (N : Nm nm n) (c_first_name : Cal P w K mg base 1 "first_name" ["tree"] (spFirst nm)) : FnOk P w K mg base CX0 4 f fd ["parts"] (spFork nm n) := by
  refine F.ok sc_fork_of (fun vs H Q E h => ?_) (fun cdv A outer s H vs Q E hr h => ?_)
  · obtain ⟨as, ⟨v, rfl, _⟩, _⟩ := h; rfl
  · obtain ⟨as, ⟨v, rfl, hv, hw, hc⟩, q⟩ := h
    refine ⟨_, PSs.nox (pss_cons (ps_if (pt_cmpR op_eq (pe_callB (lenQ K) (by rfl) B.len boot_len (pa_cons (pv 0) pa_nil)) (pe_int) (by rfl)) (pss_one (ps_ret (pe_ix (ixL K) (pv 0) (pe_int) (fun _ _ => rfl)))) pss_nil)
      (pss_one (ps_ret (pe_callTy (tupQ K) (by rfl) B.tuple boot_tuple (pa_cons (pe_fork c_first_name (hr.mono (by first | decide | omega)) (by rfl) B.sorted (by rfl) (pa_cons (pv 0) pa_nil)) pa_nil))))), ?_⟩
    obtain ⟨p, xs, rfl, hp, r⟩ := id hv
    refine r_seq (r_if (gt_use (b := decide (as.length = 1)) (gt_test fun Q' q' => r_op (gv_use (gv_len (n := as.length) (gv_var rfl ⟨p, xs, rfl, .inl (SqL.of hp), r.len⟩)) fun x H1 s1 e => r_c ⟨by rw [e]; rfl, q' _ _ s1 ?_⟩)) fun H1 s1 => ?_))
    · rw [e]; congr 1; simp; omega
    · rcases hc with ⟨a, rfl⟩ | ⟨a, b, rfl, hne⟩
      · cases r with
        | cons r1 r =>
          cases r
          refine iteT (r_ret (r_op (r_var rfl (r_c ⟨p, _, _, _, rfl, rfl, SqL.of (s1 _ _ hp), atI_nat (j := 0) rfl, q _ _ s1 ⟨a, rfl, tm_tr.same s1 r1⟩⟩))))
      · cases r with
        | cons r1 r =>
        cases r with
        | cons r2 r =>
        cases r
        rename_i x y
        refine iteF (r_next (r_ret (r_b1 (r_b1 (r_var rfl ⟨p, x, y, rfl, SqL.of (s1 _ _ hp), a, ⟨x, rfl, tm_tr.same s1 r1⟩, fun kx H2 s2 e2 => ⟨_, e2, b, ⟨y, rfl, tm_tr.same (s1.trans s2) r2⟩, fun ky H3 s3 e3 => ⟨_, e3, ?_, fun l hl => ?_⟩⟩⟩)))))
        · exact N.ne ((hw b (by simp)).lt _ (fst_mem b)) ((hw a (by simp)).lt _ (fst_mem a)) (Ne.symm hne)
        · refine ⟨l, _, rfl, SqL.of upd_same, fun l2 hl2 => q _ _ ((((s1.trans s2).trans s3).trans (same_new hl _)).trans (same_new hl2 _)) ⟨mk a b, rfl, ?_⟩⟩
          have hab := lt_sv N ((hw b (by simp)).lt _ (fst_mem b)) ((hw a (by simp)).lt _ (fst_mem a))
          unfold mk
          by_cases hlt : b.fst < a.fst
          · rw [if_pos hlt]
            exact TrV.fk (by rw [upd_same, if_pos (hab.mpr hlt)]) (tm_tr.same ((((s1.trans s2).trans s3).trans (same_new hl _)).trans (same_new hl2 _)) r2) (tm_tr.same ((((s1.trans s2).trans s3).trans (same_new hl _)).trans (same_new hl2 _)) r1)
          · rw [if_neg hlt]
            exact TrV.fk (by rw [upd_same, if_neg (fun z => hlt (hab.mp z))]) (tm_tr.same ((((s1.trans s2).trans s3).trans (same_new hl _)).trans (same_new hl2 _)) r1) (tm_tr.same ((((s1.trans s2).trans s3).trans (same_new hl _)).trans (same_new hl2 _)) r2)
/-! ### names_in -/
def spNamesIn (nm : Nat → Str) (n : Nat) : Sp := Pur (ι := Tr) (fun t vs H => ∃ v, vs = [v] ∧ TrV nm H v t ∧ Wf n t) (fun t _ H r => LotV nm H r (nmS t))
theorem sc_names_in : FnScope ["tree"] ["tree"] (defScope s_names_in) := ⟨rfl, rfl, rfl, by decide +kernel, rfl, by decide +kernel, by decide +kernel⟩
theorem ok_names_in (F : FnD K "names_in" s_names_in f fd) (B : Bi mg) (N : Nm nm n) (c_standing : Cal P w K mg base 10 "standing" ["tree"] (spStanding nm 9)) : FnOk P w K mg base CX0 11 f fd ["tree"] (spNamesIn nm n) := by
  refine F.ok sc_names_in (fun vs H Q E h => ?_) (fun cdv A outer s H vs Q E hr h => ?_)
  · obtain ⟨t, ⟨v, rfl, _⟩, _⟩ := h; rfl
  · obtain ⟨t, ⟨v, rfl, hv, hw⟩, q⟩ := h
    have hu := hr.units
    refine ⟨_, PSs.nox (pss_one (ps_ret (pe_callTy (tupQ K) (by rfl) B.tuple boot_tuple (pa_cons (pe_callB (sortQ K hu) (by rfl) B.sorted boot_sorted (pa_cons (pe_cal c_standing (hr.mono (by first | decide | omega)) (pa_cons (pv 0) pa_nil)) pa_nil)) pa_nil)))), ?_⟩
    have h9 := hw.sz N.few
    refine r_ret (gv_use (gv_tupOf (fun bs => bs = nmS t) (tm_nm (nm := nm)) (gv_imp (gv_sorted (d := dN nm) (fun as => as = t.nm) (tm_nm (nm := nm)) (gv_call1 (gv_var rfl hv) fun x H1 s1 rx => ⟨t, ⟨x, rfl, rx, h9, by omega⟩, fun r H2 s2 z => ⟨t.nm, rfl, z.l.sq.q⟩⟩) (fun as v a H1 _ _ r => dp_nm r) (fun as _ => alike_dN as) (fun as _ => sortable_dN as) (fun as _ a _ => by simp [PyData.depth])) fun r H1 s1 z => ?_)) fun r H1 s1 z => q r H1 s1 ?_)
    · obtain ⟨as, bs, rfl, pm, sr, hl⟩ := z
      refine ⟨bs, nmS_eq (srt_names N (fun x hx => hw.lt x (pm.mem_iff.mp hx)) (pm.nodup_iff.mpr (nm_nodup hw.ok)) sr) fun x => pm.mem_iff, hl.l⟩
    · obtain ⟨as, rfl, ht⟩ := z
      exact lot_tup.mpr ht
/-! ### lots_below -/
def spLotsBelow (nm : Nat → Str) (n h : Nat) : Sp := Pur (ι := Tr) (fun t vs H => ∃ v, vs = [v] ∧ TrV nm H v t ∧ Wf n t ∧ t.sz ≤ h) (fun t H0 H r => LstN (LotV nm) H0 H r ((forks t).map nmS))
theorem sc_lots_below : FnScope ["tree", "part", "lot"] ["tree"] (defScope s_lots_below) := ⟨rfl, rfl, rfl, by decide +kernel, rfl, by decide +kernel, by decide +kernel⟩
theorem st_lots_below (F : FnD K "lots_below" s_lots_below f fd) (B : Bi mg) (N : Nm nm n) (c_names_in : Cal P w K mg base 11 "names_in" ["tree"] (spNamesIn nm n)) {k h : Nat} (hk : 11 ≤ k) (ih : Cal P w K mg base k "lots_below" ["tree"] (spLotsBelow nm n h)) : FnOk P w K mg base CX0 (k + 1) f fd ["tree"] (spLotsBelow nm n (h + 1)) := by
  refine F.ok sc_lots_below (fun vs H Q E h => ?_) (fun cdv A outer s H vs Q E hr h => ?_)
  · obtain ⟨t, ⟨v, rfl, _⟩, _⟩ := h; rfl
  · obtain ⟨t, ⟨v, rfl, hv, hw, hs⟩, q⟩ := h
    refine ⟨_, PSs.nox (pss_cons (ps_if (pt_val (pe_callB (isiQ K) (by rfl) B.isinstance boot_isinstance (pa_cons (pv 0) (pa_cons (pe_bltn (v := .ty "str") (by rfl) B.str boot_str rfl) pa_nil)))) (pss_one (ps_ret (pe_lst pa_nil))) pss_nil)
      (pss_one (ps_ret (pe_op op_cat (pe_lst (pa_cons (pe_cal c_names_in (hr.mono (by first | decide | omega)) (pa_cons (pv 0) pa_nil)) pa_nil)) (pe_lc2 (own := [("part", 1), ("lot", 2)]) (vs1 := [2]) rfl sc_lots_below.nd (piT K (pv 0)) (blkOk_by (N := ["tree", "part", "lot"]) (sc := defScope s_lots_below) (by decide +kernel)) (by decide) (fun _ _ _ _ _ => (pg_name (i := 1) sc_lots_below.nd rfl (by first | exact Or.inl rfl | exact Or.inr rfl))) (fun _ _ _ _ _ => pts_nil) (fun _ _ _ _ _ => (piL K (pe_cal ih (hr.mono (by first | decide | omega)) (pa_cons (pv 1) pa_nil)))) (fun _ _ _ _ _ => (pg_name (i := 2) sc_lots_below.nd rfl (by first | exact Or.inl rfl | exact Or.inr rfl))) (fun _ _ _ _ _ => pts_nil) (fun _ _ _ _ _ => (pv 2))))))), ?_⟩
    refine r_seq (r_if (gt_use (gt_gv (gv_isStr (gv_var rfl hv))) fun H1 s1 => ?_))
    have h9 := hw.sz N.few
    cases hv with
    | lf i =>
      exact iteT (r_ret (gv_use (gv_empty (RA := LotV nm)) fun r H2 s2 z => q _ _ (s1.trans s2) (z.back s1)))
    | @fk p y z a b e h1 h2 =>
      have hv : TrV nm H (.ref p) (.fk a b) := .fk e h1 h2
      simp only [Tr.sz] at hs h9
      have l1 := len_forks a
      have l2 := len_forks b
      have z1 := sz_nm a
      have z2 := sz_nm b
      have hsl := sizeLine_eq
      refine iteF (r_next (r_ret (r_op (r_lst1 (gv_use (R := fun H r => LotV nm H r (nmS (.fk a b))) (gv_call1 (gv_var rfl (tm_tr.same s1 hv)) fun x H2 s2 rx => ⟨_, ⟨x, rfl, rx, hw⟩, fun r H3 s3 z => z⟩) fun x H2 s2 rx => ⟨one_line, fun p2 hp2 => ?_⟩)))))
      refine gv_use (gv_lc2L [a, b] (fun t => (forks t).map nmS) tm_tr (tm_lot (nm := nm)) (gv_var rfl (tm_tr.same ((s1.trans s2).trans (same_new hp2 _)) hv).tup.sq) (by simp) (by simp; omega) (fun _ => rfl) (fun _ _ => rfl) (fun _ _ => rfl) fun x c H3 hc s3 rx => ?_) fun y H3 s3 ⟨p3, zs, e3, f3, hp3, r3⟩ => ⟨p2, p3, [x], zs, rfl, e3, s3 _ _ upd_same, hp3, ?_, fun p4 hp4 => q _ _ ((((s1.trans s2).trans (same_new hp2 _)).trans s3).trans (same_new hp4 _)) ⟨p4, _, rfl, ((s1.trans s2).trans (same_new hp2 _)).free (s3.free hp4), upd_same, ?_⟩⟩
      · refine gv_call1 (gv_var rfl rx) fun y H4 s4 ry => ⟨c, ⟨y, rfl, ry, ?_, ?_⟩, fun r H5 s5 z => z.back s4⟩
        · rcases List.mem_cons.mp hc with rfl | hc
          · exact hw.l
          · rw [List.mem_singleton.mp hc]; exact hw.r
        · rcases List.mem_cons.mp hc with rfl | hc
          · omega
          · rw [List.mem_singleton.mp hc]; omega
      · have := r3.len
        simp at this
        simp; omega
      · have e5 : (forks (.fk a b)).map nmS = [nmS (.fk a b)] ++ ([a, b].map fun t => (forks t).map nmS).flatten := by simp [forks]
        rw [e5]
        exact (P2.cons (tm_lot.same (((same_new hp2 _).trans s3).trans (same_new hp4 _)) rx) .nil).app (r3.imp fun _ _ k => tm_lot.same (same_new hp4 _) k)
theorem ok_lots_below (F : FnD K "lots_below" s_lots_below f fd) (B : Bi mg) (N : Nm nm n) (c_names_in : Cal P w K mg base 11 "names_in" ["tree"] (spNamesIn nm n)) (m : mg "lots_below" = some (.ref f)) : ∀ h, FnOk P w K mg base CX0 (h + 12) f fd ["tree"] (spLotsBelow nm n h)
  | 0 => ⟨fun vs H Q E ⟨t, ⟨v, e, _⟩, _⟩ => by rw [e]; rfl, fun _ _ _ _ _ _ _ _ _ _ _ _ _ ⟨t, ⟨_, _, _, _, h⟩, _⟩ => absurd h (by have := sz_pos t; omega)⟩
  | h + 1 => st_lots_below F B N c_names_in (by omega) (cal_mk F (ok_lots_below F B N c_names_in m h) m (bd1 fun _ _ _ _ _ _ _ => by first | rfl | kernel_rfl))
end
end Jw
end

section
set_option Elab.async false
set_option linter.all false
set_option maxRecDepth 100000
set_option maxHeartbeats 4000000
/-! lots_of, part_to, tree_to, nodes_of. -/
namespace Jw
open PySem PySem.Spec PyProof.Rows L2 Jt JH
section
variable {P : Program} {w : World} {K : PySem.W.Frag} {mg : Str → Option Value} {base : Heap} {f : Addr} {fd : FuncData} {nm : Nat → Str} {n : Nat}
/-! ### lots_of -/
def spLotsOf (nm : Nat → Str) (n : Nat) : Sp := Pur (ι := Tr) (fun t vs H => ∃ v, vs = [v] ∧ TrV nm H v t ∧ Wf n t) (fun t H0 H r => ∃ L, L.Perm ((forks t).map nmS) ∧ LstN (LotV nm) H0 H r L)
theorem sc_lots_of : FnScope ["tree"] ["tree"] (defScope s_lots_of) := ⟨rfl, rfl, rfl, by decide +kernel, rfl, by decide +kernel, by decide +kernel⟩
theorem ok_lots_of (F : FnD K "lots_of" s_lots_of f fd) (B : Bi mg) (N : Nm nm n) (c_lots_below : Cal P w K mg base 21 "lots_below" ["tree"] (spLotsBelow nm n 9)) : FnOk P w K mg base CX0 22 f fd ["tree"] (spLotsOf nm n) := by
  refine F.ok sc_lots_of (fun vs H Q E h => ?_) (fun cdv A outer s H vs Q E hr h => ?_)
  · obtain ⟨t, ⟨v, rfl, _⟩, _⟩ := h; rfl
  · obtain ⟨t, ⟨v, rfl, hv, hw⟩, q⟩ := h
    have hu := hr.units
    refine ⟨_, PSs.nox (pss_one (ps_ret (pe_callB (sortQ K hu) (by rfl) B.sorted boot_sorted (pa_cons (pe_cal c_lots_below (hr.mono (by first | decide | omega)) (pa_cons (pv 0) pa_nil)) pa_nil)))), ?_⟩
    refine r_ret (gv_use (gv_sorted (d := dL nm) (fun as => as = (forks t).map nmS) (tm_lot (nm := nm)) (gv_call1 (gv_var rfl hv) fun x H1 s1 rx => ⟨t, ⟨x, rfl, rx, hw, hw.sz N.few⟩, fun r H2 s2 z => ⟨_, rfl, z.l.sq.q⟩⟩) (fun as v a H1 _ _ r => dp_lot r) (fun as _ => alike_dL as) (fun as e => sortable_dL fun l hl => ?_) (fun as _ a _ => Nat.le_trans (depth_dL a) (by omega))) fun r H1 s1 ⟨as, bs, e, pm, _, hl⟩ => q r H1 s1 ⟨bs, by rw [← e]; exact pm, hl⟩)
    rw [e] at hl
    obtain ⟨S, _, rfl⟩ := List.mem_map.mp hl
    exact nmS_ne S
/-! ### part_to, tree_to -/
def spPartTo (nm : Nat → Str) (n h : Nat) : Sp := Pur (ι := Tr × List Nat) (fun i vs H => ∃ v u, vs = [v, u] ∧ TrV nm H v i.1 ∧ LotV nm H u i.2 ∧ Wf n i.1 ∧ (∀ x ∈ i.2, x < n) ∧ i.1.sz ≤ h) (fun i _ H r => OTr nm H r (res (el i.2) i.1))
theorem otr_some {H : Hp} : ∀ {ys : List V} {os : List (Option Tr)}, P2 (OTr nm H) ys (os.filter Option.isSome) → P2 (TrV nm H) ys (os.filterMap id)
  | ys, [], h => by cases h; exact .nil
  | ys, none :: os, h => otr_some (os := os) h
  | ys, some t :: os, h => by
    cases h with
    | cons r h => exact .cons r (otr_some (os := os) h)
theorem sc_part_to : FnScope ["tree", "names", "parts", "part", "kept"] ["tree", "names"] (defScope s_part_to) := ⟨rfl, rfl, rfl, by decide +kernel, rfl, by decide +kernel, by decide +kernel⟩
theorem st_part_to (F : FnD K "part_to" s_part_to f fd) (B : Bi mg) (N : Nm nm n) (c_fork_of : Cal P w K mg base 4 "fork_of" ["parts"] (spFork nm n)) {k h : Nat} (hk : 4 ≤ k) (ih : Cal P w K mg base k "part_to" ["tree", "names"] (spPartTo nm n h)) : FnOk P w K mg base CX0 (k + 1) f fd ["tree", "names"] (spPartTo nm n (h + 1)) := by
  refine F.ok sc_part_to (fun vs H Q E h => ?_) (fun cdv A outer s H vs Q E hr h => ?_)
  · obtain ⟨t, ⟨v, u, rfl, _⟩, _⟩ := h; rfl
  · obtain ⟨⟨t, l⟩, ⟨v, u, rfl, hv, hl, hw, hln, hs⟩, q⟩ := h
    have hu := hr.units
    refine ⟨_, PSs.nox (pss_cons (ps_if (pt_val (pe_callB (isiQ K) (by rfl) B.isinstance boot_isinstance (pa_cons (pv 0) (pa_cons (pe_bltn (v := .ty "str") (by rfl) B.str boot_str rfl) pa_nil)))) (pss_one (ps_ret (pe_ifExp (pt_cmpR (inS K) (pv 0) (pv 1) (by rfl)) (pv 0) (pe_non)))) pss_nil)
      (pss_cons (ps_setLc (own := [("part", 3)]) (i := 2) rfl sc_part_to.nd rfl rfl (sw_true rfl rfl rfl (by decide +kernel)) (piT K (pv 0)) (blkOk_by (N := ["tree", "names", "parts", "part", "kept"]) (sc := defScope s_part_to) (by decide +kernel)) (fun _ _ _ _ _ => (pg_name (i := 3) sc_part_to.nd rfl (by first | exact Or.inl rfl | exact Or.inr rfl))) (fun _ _ _ _ _ => pts_nil) (fun _ _ _ _ _ => (pe_cal ih (hr.mono (by first | decide | omega)) (pa_cons (pv 3) (pa_cons (pv 1) pa_nil)))))
      (pss_cons (ps_setLc (own := [("part", 3)]) (i := 4) rfl sc_part_to.nd rfl rfl (sw_true rfl rfl rfl (by decide +kernel)) (piL K (pv 2)) (blkOk_by (N := ["tree", "names", "parts", "part", "kept"]) (sc := defScope s_part_to) (by decide +kernel)) (fun _ _ _ _ _ => (pg_name (i := 3) sc_part_to.nd rfl (by first | exact Or.inl rfl | exact Or.inr rfl))) (fun _ _ _ _ _ => pts_one (pt_cmpR op_notN (pv 3) (pe_non) (by rfl))) (fun _ _ _ _ _ => (pv 3)))
      (pss_one (ps_ret (pe_ifExp (pt_cmpR (neD K hu) (pv 4) (pe_lst pa_nil) (by rfl)) (pe_cal c_fork_of (hr.mono (by first | decide | omega)) (pa_cons (pv 4) pa_nil)) (pe_non))))))), ?_⟩
    refine r_seq (r_if (gt_use (gt_gv (gv_isStr (gv_var rfl hv))) fun H1 s1 => ?_))
    simp only at hv hl hw hln hs
    cases hv with
    | lf i =>
      obtain ⟨a, rfl, ha⟩ := hl
      have hi : i < n := hw.lt i (by simp [Tr.nm])
      refine iteT (r_ret (r_ifE (gt_use (b := decide (i ∈ l)) (gt_test fun Q' q' => r_op (r_var rfl (r_var rfl ⟨a, _, rfl, .inr (SqT.of (s1 _ _ ha)), rfl, flat_svs, ?_⟩))) fun H2 s2 => ?_)))
      · rw [if_neg Bool.false_ne_true, inV_sv N hi hln]
        exact q' _ _ (Same.refl _) rfl
      · refine ite2 (fun c => r_var rfl (q _ _ (s1.trans s2) ?_)) fun c => r_c (q _ _ (s1.trans s2) ?_)
        · have : res (el l) (.lf i) = some (.lf i) := by simp only [res, el]; rw [if_pos c]
          show OTr nm H2 (sv nm i) (res (el l) (.lf i))
          rw [this]; exact .lf i
        · have : res (el l) (.lf i) = none := by simp only [res, el]; rw [if_neg c]
          show OTr nm H2 .non (res (el l) (.lf i))
          rw [this]; rfl
    | @fk p y z a b e h1 h2 =>
      have hv : TrV nm H (.ref p) (.fk a b) := .fk e h1 h2
      simp only [Tr.sz] at hs
      refine iteF (r_next (r_seq (r_asg (gv_use (gv_lcT0 (fun t => res (el l) t) (fun as => as = [a, b]) tm_tr (tm_otr (nm := nm)) (gv_var rfl ⟨_, rfl, (tm_tr.same s1 hv).tup.sq⟩) (fun _ e => by rw [e]; simp) (fun _ => rfl) ?_) fun x H2 s2 hx => ?_))))
      · rintro _ x c H2 rfl hc s2 rx
        refine gv_call2 (gv_var rfl rx) (fun H3 s3 => gv_var (R := fun H r => LotV nm H r l) rfl (tm_lot.same ((s1.trans s2).trans s3) hl)) fun y u H3 H4 s3 ry s4 ru => ⟨(c, l), ⟨y, u, rfl, tm_tr.same s4 ry, ru, ?_, hln, ?_⟩, fun r H5 s5 z => z⟩
        · rcases List.mem_cons.mp hc with rfl | hc
          · exact hw.l
          · rw [List.mem_singleton.mp hc]; exact hw.r
        · show c.sz ≤ h
          rcases List.mem_cons.mp hc with rfl | hc
          · omega
          · rw [List.mem_singleton.mp hc]; omega
      · obtain ⟨_, rfl, hx⟩ := hx
        refine r_seq (r_asg (gv_use (gv_lcL Option.isSome id (fun as => as = [a, b].map fun t => res (el l) t) (tm_otr (nm := nm)) (tm_otr (nm := nm)) (gv_var rfl ⟨_, rfl, hx.l.sq⟩) (fun _ e => by rw [e]; simp) (fun _ => rfl) ?_ ?_) fun x2 H3 s3 hx2 => ?_))
        · rintro _ x c H4 rfl hc s4 rx
          refine gt_test fun Q' q' => r_op (r_var rfl (r_c ⟨rfl, q' _ _ (Same.refl _) ?_⟩))
          cases c with
          | none => rw [show x = V.non from rx]; rfl
          | some t => cases rx <;> rfl
        · rintro _ x c H4 rfl hc s4 rx _
          exact gv_var rfl rx
        · obtain ⟨_, rfl, hx2⟩ := hx2
          rw [List.map_id] at hx2
          have hk2 : LstV (TrV nm) H3 x2 (([a, b].map fun t => res (el l) t).filterMap id) := let ⟨p, xs, e, _, hp, r⟩ := hx2; ⟨p, xs, e, hp, otr_some r⟩
          have hwf : ∀ t ∈ ([a, b].map fun t => res (el l) t).filterMap id, Wf n t := fun t ht => by
            obtain ⟨o, ho, e⟩ := List.mem_filterMap.mp ht
            obtain ⟨c, hc, rfl⟩ := List.mem_map.mp ho
            rcases List.mem_cons.mp hc with rfl | hc
            · exact hw.l.res e
            · rw [List.mem_singleton.mp hc] at e; exact hw.r.res e
          refine r_ret (r_ifE (gt_use (gt_test (gv_neD (da := .list ((([a, b].map fun t => res (el l) t).filterMap id).map (dT nm))) (db := .list []) (gv_var (R := fun H r => LstV (TrV nm) H r (([a, b].map fun t => res (el l) t).filterMap id)) rfl hk2) (fun H4 s4 => gv_emptyL (α := Tr) (RA := TrV nm)) (fun x y H4 H5 s4 rx s5 ⟨p, ys, ey, hy, ry⟩ => ⟨dp_trs (rx.same tm_tr s5), by rw [ey]; cases ry; exact .lst (SqL.of hy) .nil⟩) (sh_trs N hwf) sh_nilL)) fun H4 s4 => ?_))
          have hd : Disj a b := ok_disj hw.ok
          have eq0 : res (el l) (.fk a b) = combL (([a, b].map fun t => res (el l) t).filterMap id) := by
            show comb (res (el l) a) (res (el l) b) = _
            cases ea : res (el l) a <;> cases eb : res (el l) b <;> simp [ea, eb, comb, combL]
          have hlen : (([a, b].map fun t => res (el l) t).filterMap id) = [] ∨ (∃ c, (([a, b].map fun t => res (el l) t).filterMap id) = [c]) ∨ ∃ c d, (([a, b].map fun t => res (el l) t).filterMap id) = [c, d] ∧ c.fst ≠ d.fst := by
            cases ea : res (el l) a with
            | none =>
              cases eb : res (el l) b with
              | none => exact .inl (by simp [ea, eb])
              | some y => exact .inr (.inl ⟨y, by simp [ea, eb]⟩)
            | some x =>
              cases eb : res (el l) b with
              | none => exact .inr (.inl ⟨x, by simp [ea, eb]⟩)
              | some y => exact .inr (.inr ⟨x, y, by simp [ea, eb], (res_disj hd ea eb).fst_ne⟩)
          generalize hL : (([a, b].map fun t => res (el l) t).filterMap id) = L at *
          rcases hlen with rfl | ⟨c, rfl⟩ | ⟨c, d, rfl, hcd⟩
          · refine iteF (r_c (q _ _ (((s1.trans s2).trans s3).trans s4) ?_))
            show OTr nm H4 .non (res (el l) (.fk a b))
            rw [eq0]; rfl
          · refine iteT (gv_use (gv_call1 (gv_var (R := fun H r => LstV (TrV nm) H r [c]) rfl (hk2.same tm_tr s4)) fun y H5 s5 ry => ⟨[c], ⟨y, rfl, ry, hwf, .inl ⟨c, rfl⟩⟩, fun r H6 s6 ⟨t, e, z⟩ => (⟨t, e, z⟩ : ∃ t, combL [c] = some t ∧ TrV nm H6 r t)⟩) fun r H5 s5 ⟨t, e, z⟩ => q _ _ ((((s1.trans s2).trans s3).trans s4).trans s5) ?_)
            show OTr nm H5 r (res (el l) (.fk a b))
            rw [eq0, e]; exact z
          · refine iteT (gv_use (gv_call1 (gv_var (R := fun H r => LstV (TrV nm) H r [c, d]) rfl (hk2.same tm_tr s4)) fun y H5 s5 ry => ⟨[c, d], ⟨y, rfl, ry, hwf, .inr ⟨c, d, rfl, hcd⟩⟩, fun r H6 s6 ⟨t, e, z⟩ => (⟨t, e, z⟩ : ∃ t, combL [c, d] = some t ∧ TrV nm H6 r t)⟩) fun r H5 s5 ⟨t, e, z⟩ => q _ _ ((((s1.trans s2).trans s3).trans s4).trans s5) ?_)
            show OTr nm H5 r (res (el l) (.fk a b))
            rw [eq0, e]; exact z
theorem ok_part_to (F : FnD K "part_to" s_part_to f fd) (B : Bi mg) (N : Nm nm n) (c_fork_of : Cal P w K mg base 4 "fork_of" ["parts"] (spFork nm n)) (m : mg "part_to" = some (.ref f)) : ∀ h, FnOk P w K mg base CX0 (h + 5) f fd ["tree", "names"] (spPartTo nm n h)
  | 0 => ⟨fun vs H Q E ⟨t, ⟨v, u, e, _⟩, _⟩ => by rw [e]; rfl, fun _ _ _ _ _ _ _ _ _ _ _ _ _ ⟨t, ⟨_, _, _, _, _, _, _, h⟩, _⟩ => absurd h (by have := sz_pos t.1; omega)⟩
  | h + 1 => st_part_to F B N c_fork_of (by omega) (cal_mk F (ok_part_to F B N c_fork_of m h) m (bd2 fun _ _ _ _ _ _ _ _ => by first | rfl | kernel_rfl))
end
end Jw
end

section
set_option Elab.async false
set_option linter.all false
set_option maxRecDepth 100000
set_option maxHeartbeats 4000000
/-! Sets of tuples of texts, first part: the table and its search. -/
namespace Jw
open PySem PySem.Spec PyProof.Rows L2 Jt
abbrev KS : Type := List (Addr × List Str)
abbrev sKd (P : Program) (w : World) : PySem.KeyKind P w Str := PySem.strKind P w
abbrev hS (P : Program) (w : World) (k : List Str) : Int := tupleKeyHash (sKd P w) k
abbrev IsS (P : Program) (w : World) (h : Heap) (k : List Str) (b : Addr) : Prop := IsTupleKey (sKd P w) h k b
def ent (P : Program) (w : World) (p : Addr × List Str) : Int × Value := (hS P w p.2, .ref p.1)
/-- a table of the tuples L, be it never so full -/
structure Tb0 (P : Program) (w : World) (L : KS) (es : Array (Int × Value)) (t : SetTable) : Prop where
  rows : es.toList = L.map (ent P w)
  tab : TabOk t (L.map fun p => hS P w p.2)
  nd : (L.map (·.2)).Nodup
  led : w.params.followText "set-order" = true ∨ t.led = true
  few : L.length < 64
  fit : L.length ≤ t.mask
def Roomy (L : KS) (t : SetTable) : Prop := L.length * 5 < t.mask * 3
def At (h : Heap) (a : Addr) (es : Array (Int × Value)) (t : SetTable) : Prop := ∃ o ep, h.get? a = some o ∧ o.ExactSet ∧ o.data = .set es ep t
section
variable {P : Program} {w : World} {A : Around} {E : Value → Shared → Prop} {s : Shared} {a x : Addr} {k : List Str} {L : KS} {es : Array (Int × Value)} {t : SetTable}
theorem Tb0.len (T : Tb0 P w L es t) : es.size = L.length := by
  rw [← Array.length_toList, T.rows, List.length_map]
theorem Tb0.fits (T : Tb0 P w L es t) : t.fits es.size = true := by
  have h1 := T.tab.sz
  have h2 := T.len
  have h3 := T.fit
  simp only [List.length_map] at h1
  simp only [SetTable.fits, SetTable.fill, T.tab.dm, Bool.and_eq_true, beq_iff_eq, decide_eq_true_eq, Array.size_empty]
  omega
theorem Tb0.entry (T : Tb0 P w L es t) {i : Nat} {p : Addr × List Str} (h : L[i]? = some p) : es[i]? = some (ent P w p) := by
  rw [← Array.getElem?_toList, T.rows, List.getElem?_map, h]; rfl
/-! questions asked of a tuple of texts -/
theorem strTok_of {k : List Str} {vs : List Value} (h : ItemsAre (sKd P w) k vs) : ∀ v ∈ vs, ∃ x t, v = Value.str x t := by
  induction h with
  | nil => intro v hv; cases hv
  | cons h1 _ ih =>
    intro v hv
    rcases List.mem_cons.mp hv with rfl | hv
    · obtain ⟨t, e⟩ := Value.isStrOf_shape h1; exact ⟨_, t, e⟩
    · exact ih v hv
theorem ofA_str (n : Nat) (x : Str) (t : Tok) : ofAClassStatement n (.str x t) = pure false := by cases n <;> rfl
theorem byV_str (n : Nat) (x : Str) (t : Tok) : hashByValue n (.str x t) = pure false := by cases n <;> simp [hashByValue]
/-- a loop over texts whose turns leave all as it was -/
theorem quiet_loop {vs : List Value} (hv : ∀ v ∈ vs, ∃ x t, v = Value.str x t) {β : Type} {f : Value → β → Sem (ForInStep β)} {b : β} {Q : β → Shared → Prop} (hf : ∀ x t, f (.str x t) b = pure (.yield b)) (h : Q b s) : wpAny (model P w) A (forIn vs b f) Q E s := by
  refine wpAny_forIn_list f (fun rest b' s' => b' = b ∧ s' = s ∧ ∀ v ∈ rest, v ∈ vs) Q ?_ ?_ vs b ⟨rfl, rfl, fun v hv => hv⟩
  · rintro v rest b' s' ⟨rfl, rfl, hr⟩
    obtain ⟨x, t, rfl⟩ := hv v (hr v (by simp))
    rw [hf]
    exact wpAny_pure ⟨rfl, rfl, fun u hu => hr u (by simp [hu])⟩
  · rintro b' s' ⟨rfl, rfl, _⟩; exact h
theorem ofA_tup {Q : Bool → Shared → Prop} (hk : IsS P w s.heap k x) (h : Q false s) : wpAny (model P w) A (ofAClassStatement 8 (.ref x)) Q E s := by
  have ty := hk.typeIs
  obtain ⟨o, its, n, ho, hc, hd, hi⟩ := hk
  unfold ofAClassStatement
  refine wpAny_bind (wpAny_typeOf ty ?_)
  have e : (("tuple" : String) == "tuple") = true := by decide
  simp only [e, if_true, Bool.not_true, Bool.false_eq_true, if_false]
  try refine wpAny_bind (wpAny_pure ?_)
  refine wpAny_bind (wpAny_seqItems ho hd ?_)
  dsimp only
  refine wpAny_bind ?_
  rw [← Array.forIn_toList]
  refine quiet_loop (strTok_of hi) (fun x t => ?_) ?_
  · rw [ofA_str]; rfl
  · exact wpAny_pure h
theorem byV_tup {Q : Bool → Shared → Prop} (hk : IsS P w s.heap k x) (h : ∀ b, Q b s) : wpAny (model P w) A (hashByValue 8 (.ref x)) Q E s := by
  have ty := hk.typeIs
  obtain ⟨o, its, n, ho, hc, hd, hi⟩ := hk
  unfold hashByValue
  refine wpAny_bind (wpAny_specialOf ty F.slot_tuple_hash.lookup ?_)
  show wpAny _ _ (seqItems? (.ref x) >>= _) _ _ s
  refine wpAny_bind (wpAny_seqItems ho hd ?_)
  refine wpAny_bind ?_
  show wpAny _ _ (forIn its _ _) _ _ s
  rw [← Array.forIn_toList]
  refine wpAny_forIn_list _ (fun rest b s' => b.1 = none ∧ s' = s ∧ ∀ v ∈ rest, v ∈ its.toList) _ ?_ ?_ _ _ ⟨rfl, rfl, fun v hv => hv⟩
  · rintro v rest b s' ⟨hb, rfl, hr⟩
    obtain ⟨x, t, rfl⟩ := strTok_of hi v (hr v (by simp))
    rw [byV_str]
    refine wpAny_bind (wpAny_pure ?_)
    simp only [Bool.not_false, if_true]
    exact wpAny_pure (wpAny_pure (h _))
  · rintro ⟨b1, b2⟩ s' ⟨hb, rfl, _⟩
    obtain rfl : b1 = none := hb
    exact wpAny_pure (h _)
/-- among tuples of texts a search shows nothing -/
theorem unseen {Q : Bool → Shared → Prop} (hk : IsS P w s.heap k x) {ys : List Value} (hy : ∀ y ∈ ys, ∃ l c, y = Value.ref c ∧ IsS P w s.heap l c) (h : Q false s) : wpAny (model P w) A (searchCouldBeSeen (.ref x) ys) Q E s := by
  unfold searchCouldBeSeen
  refine wpAny_bind (wpAny_forIn_list _ (fun rest b s' => b.1 = none ∧ s' = s ∧ ∀ y ∈ rest, y ∈ ys) _ ?_ ?_ ys _ ⟨rfl, rfl, fun y h => h⟩)
  · rintro v rest b s' ⟨hb, rfl, hr⟩
    obtain ⟨l, c, rfl, hc⟩ := hy v (hr v (by simp))
    have next : ∀ y ∈ rest, y ∈ ys := fun u hu => hr u (by simp [hu])
    dsimp only
    split
    · exact wpAny_pure ⟨rfl, rfl, next⟩
    · refine wpAny_bind (wpAny_eqIsQuiet_tuple hk ?_)
      simp only [Bool.not_true, Bool.false_eq_true, if_false]
      refine wpAny_bind (wpAny_eqIsQuiet_tuple hc ?_)
      simp only [Bool.not_true, Bool.false_eq_true, if_false]
      refine wpAny_bind (ofA_tup hk ?_)
      simp only [Bool.false_eq_true, if_false]
      refine wpAny_bind (ofA_tup hc ?_)
      simp only [Bool.false_eq_true, if_false]
      exact wpAny_pure ⟨rfl, rfl, next⟩
  · rintro ⟨b1, b2⟩ s' ⟨hb, rfl, _⟩
    obtain rfl : b1 = none := hb
    exact wpAny_pure h
end
end Jw

namespace Jw
open PySem PySem.Spec PyProof.Rows L2 Jt
section
variable {P : Program} {w : World} {A : Around} {E : Value → Shared → Prop} {s : Shared} {a x : Addr} {k : List Str} {L : KS} {es : Array (Int × Value)} {t : SetTable}
theorem At.state {M : Model} {Q : Array (Int × Value) × Nat × SetTable → Shared → Prop} (T : Tb0 P w L es t) (hA : At s.heap a es t) (h : ∀ ep, Q (es, ep, t) s) : wpAny (model P w) A (setState a) Q E s := by
  obtain ⟨o, ep, ho, _, hd⟩ := hA
  exact wpAny_setState_of ho hd T.fits (h ep)
theorem nth_dummy (m : Nat) : ∀ (n : Nat) (p : SetTable.Probe), p.dummy = none → (nth m p n).dummy = none
  | 0, _, h => h
  | n + 1, p, h => nth_dummy m n (adv m p) (by unfold adv; split <;> exact h)
/-- the hashes as the table asks for them -/
theorem Tb0.hashAt (T : Tb0 P w L es t) {i : Nat} {p : Addr × List Str} (h : L[i]? = some p) : (es[i]?.map (·.1)).getD 0 = hS P w p.2 := by rw [T.entry h]; rfl
/-- THE SEARCH, from its c-th step on: K is the first empty place of the way -/
theorem look (T : Tb0 P w L es t) (hA : At s.heap a es t) (hL : ∀ p ∈ L, IsS P w s.heap p.2 p.1) (hx : IsS P w s.heap k x) (hu : A.units < cLine) {K : Nat} (hK1 : K < 10 * SetTable.turns t.mask) (hK2 : way t.mask (hS P w k) K ∉ t.place.toList)
    (hK3 : ∀ c, c < K → way t.mask (hS P w k) c ∈ t.place.toList) {Q : SetFound → Shared → Prop} (q1 : k ∈ L.map (·.2) → Q (.there none) s) (q2 : k ∉ L.map (·.2) → Q (.free (way t.mask (hS P w k) K) false) s) :
    ∀ (f c : Nat) (st : Option SetTable.Probe), K < c + f → c ≤ K → st.getD (t.probeStart (hS P w k)) = nth t.mask (runAt t.mask (SetTable.bits (hS P w k) % (t.mask + 1)) (SetTable.bits (hS P w k))) c →
      (∀ (i : Nat) (p : Addr × List Str), L[i]? = some p → p.2 = k → ∃ d, c ≤ d ∧ d < K ∧ t.place.toList[i]? = some (way t.mask (hS P w k) d)) → wpAny (model P w) A (setSearchFrom a (.ref x) (hS P w k) true f st) Q E s := by
  generalize hH : hS P w k = H at *
  intro f
  induction f with
  | zero => intro c st h1 h2; omega
  | succ f ih =>
    intro c st hf hc hst hre
    rw [setSearchFrom_succ]
    refine wpAny_bind (At.state (M := model P w) T hA fun ep => ?_)
    dsimp only
    rw [if_neg (by unfold SetTable.gaveWay; rw [mask_odd T.tab.mok]; decide)]
    try refine wpAny_bind (wpAny_pure ?_)
    generalize hp0 : runAt t.mask (SetTable.bits H % (t.mask + 1)) (SetTable.bits H) = p0 at *
    have dm : (nth t.mask p0 c).dummy = none := nth_dummy _ _ _ (by rw [← hp0]; rfl)
    have wy : ∀ d, (nth t.mask (nth t.mask p0 c) d) = nth t.mask p0 (c + d) := fun d => (nth_add t.mask c p0 d).symm
    have wj : ∀ d, (nth t.mask p0 d).j = way t.mask H d := fun d => by rw [← hp0]
    have past : ∀ e : Nat, (∀ (d i : Nat), d < e → t.place.toList[i]? = some (way t.mask H (c + d)) → (es[i]?.map (·.1)).getD 0 ≠ H) → ∀ (i : Nat) (p : Addr × List Str), L[i]? = some p → p.2 = k → ∃ d, c + e ≤ d ∧ d < K ∧ t.place.toList[i]? = some (way t.mask H d) := fun e hno i p hi hp => by
      obtain ⟨d, d1, d2, d3⟩ := hre i p hi hp
      rcases Nat.lt_or_ge d (c + e) with z | z
      · refine absurd ?_ (hno (d - c) i (by omega) (by rw [d3, show c + (d - c) = d by omega]))
        rw [T.hashAt hi, hp, hH]
      · exact ⟨d, z, d2, d3⟩
    have spec := go_spec t T.tab.ris T.tab.dm (fun i => (es[i]?.map (·.1)).getD 0) H (10 * SetTable.turns t.mask) (K - c) (nth t.mask p0 c) dm (by omega)
      (fun d hd => by rw [wy, wj]; exact hK3 _ (by omega)) (by rw [wy, wj, show c + (K - c) = K by omega]; exact hK2)
    simp only [wy, wj] at spec
    rcases spec with ⟨d, i, hd, hi, hh, hno, hpr⟩ | ⟨hno, hpr⟩
    · have hpr2 : t.probe (fun i => (es[i]?.map (·.1)).getD 0) H (st.getD (t.probeStart H)) = some (.candidate (way t.mask H (c + d)) i (nth t.mask p0 (c + (d + 1)))) := by rw [hst]; exact hpr
      rw [hpr2]
      dsimp only
      have hil : i < L.length := by
        have h1 := (List.getElem?_eq_some_iff.mp hi).1
        have h2 := T.tab.sz
        simp only [List.length_map] at h2
        simp only [Array.length_toList] at h1
        omega
      obtain ⟨p, hp⟩ : ∃ p, L[i]? = some p := ⟨_, List.getElem?_eq_getElem hil⟩
      have hpm := List.mem_of_getElem? hp
      have live := slot_live T.tab.ris hi
      have onward : wpAny (model P w) A (searchRest a (.ref x) H true f es t (way t.mask H (c + d)) i (nth t.mask p0 (c + (d + 1)))) Q E s := by
        unfold searchRest
        rw [T.entry hp]
        dsimp only [ent]
        refine wpAny_bind (wpAny_holding (wpAny_eqBool_tuple hu (hL p hpm) hx ?_))
        refine wpAny_bind (At.state (M := model P w) T hA fun ep => ?_)
        dsimp only
        by_cases e : p.2 = k
        · rw [if_pos (by simp [e])]
          exact wpAny_pure (q1 (List.mem_map.mpr ⟨p, hpm, e⟩))
        · rw [if_neg (by simp [e])]
          try refine wpAny_bind (wpAny_pure ?_)
          rw [sameMem]
          dsimp only
          simp only [if_true, live, T.entry hp, ent]
          refine wpAny_bind (wpAny_isSame_ref_self (wpAny_bind (wpAny_pure ?_)))
          simp only [if_true]
          rw [if_neg (by simp [e])]
          refine ih (c + (d + 1)) (some (nth t.mask p0 (c + (d + 1)))) (by omega) (by omega) rfl fun i0 p1 h0 h1 => ?_
          obtain ⟨d', e1, e2, e3⟩ := past d hno i0 p1 h0 h1
          refine ⟨d', ?_, e2, e3⟩
          rcases Nat.eq_or_lt_of_le e1 with z | z
          · rw [← z] at e3
            have := slot_live T.tab.ris e3
            rw [live] at this
            injection this with this
            subst this
            rw [hp] at h0
            cases h0
            exact absurd h1 e
          · omega
      by_cases hl : t.led = true
      · rw [if_neg (by simp [hl])]
        try refine wpAny_bind (wpAny_pure ?_)
        exact onward
      · rw [if_pos (by simp [hl])]
        refine wpAny_bind (unseen hx (fun y hy => ?_) ?_)
        · obtain ⟨e, he, rfl⟩ := List.mem_map.mp hy
          have : e ∈ es.toList := by simpa using (show e ∈ es ∧ _ from by simpa using he).1
          rw [T.rows] at this
          obtain ⟨p2, hp2, rfl⟩ := List.mem_map.mp this
          exact ⟨p2.2, p2.1, rfl, hL p2 hp2⟩
        · rw [if_neg (by decide)]
          try refine wpAny_bind (wpAny_pure ?_)
          exact onward
    · have hpr2 : t.probe (fun i => (es[i]?.map (·.1)).getD 0) H (st.getD (t.probeStart H)) = some (.empty (way t.mask H K) none) := by
        rw [hst, show K = c + (K - c) by omega]; exact hpr
      rw [hpr2]
      dsimp only
      refine wpAny_pure (q2 fun hm => ?_)
      obtain ⟨p, hp, e⟩ := List.mem_map.mp hm
      obtain ⟨i, hi, e2⟩ := List.getElem_of_mem hp
      obtain ⟨d, d1, d2, _⟩ := past (K - c) hno i p (by rw [List.getElem?_eq_getElem hi, e2]) e
      omega
/-- the search as adding asks for it -/
theorem search (T : Tb0 P w L es t) (hR : Roomy L t) (hA : At s.heap a es t) (hL : ∀ p ∈ L, IsS P w s.heap p.2 p.1) (hx : IsS P w s.heap k x) (hu : A.units < cLine) {Q : SetFound → Shared → Prop} (q1 : k ∈ L.map (·.2) → Q (.there none) s)
    (q2 : ∀ K, k ∉ L.map (·.2) → way t.mask (hS P w k) K ∉ t.place.toList → (∀ c, c < K → way t.mask (hS P w k) c ∈ t.place.toList) → Q (.free (way t.mask (hS P w k) K) false) s) : wpAny (model P w) A (setSearch a (.ref x) (hS P w k) true) Q E s := by
  obtain ⟨K, h1, h2, h3⟩ := T.tab.first (by simp only [List.length_map]; exact T.fit) (hS P w k)
  have big : 10 * SetTable.turns t.mask ≤ 2000 := by
    unfold SetTable.turns
    rcases T.tab.mok with e | e | e <;> rw [e] <;> decide
  refine look T hA hL hx hu h1 h2 h3 q1 (fun hn => q2 K hn h2 h3) 100000 0 none (by omega) (Nat.zero_le _) rfl fun i p hp e => ?_
  have hh : (L.map fun p => hS P w p.2)[i]? = some (hS P w k) := by rw [List.getElem?_map, hp, ← e]; rfl
  have hi : i < t.place.toList.length := by
    have h1 := (List.getElem?_eq_some_iff.mp hp).1
    have h2 := T.tab.sz
    simp only [List.length_map] at h2
    simp only [Array.length_toList]
    omega
  obtain ⟨d, hd, e2⟩ := T.tab.before h2 hh (List.getElem?_eq_getElem hi)
  exact ⟨d, Nat.zero_le _, hd, by rw [List.getElem?_eq_getElem hi, e2]⟩
end
end Jw

namespace Jw
open PySem PySem.Spec PyProof.Rows L2 Jt
section
variable {P : Program} {w : World} {A : Around} {E : Value → Shared → Prop} {s : Shared} {a x : Addr} {k : List Str} {L : KS} {es : Array (Int × Value)} {t : SetTable}
theorem Tb0.mark (T : Tb0 P w L es t) (b : Bool) : Tb0 P w L es { t with plain := b } := ⟨T.rows, ⟨T.tab.ris, T.tab.dm, T.tab.sz, T.tab.mok, T.tab.bd, T.tab.reach⟩, T.nd, T.led, T.few, T.fit⟩
/-- one more tuple in the first empty place of its way -/
theorem Tb0.put (T : Tb0 P w L es t) (hR : Roomy L t) (x : Addr) {K : Nat} (hm : k ∉ L.map (·.2)) (h2 : way t.mask (hS P w k) K ∉ t.place.toList) (h3 : ∀ c, c < K → way t.mask (hS P w k) c ∈ t.place.toList) (hf : L.length + 1 < 64) :
    ∃ L1 : KS, L1.Perm ((x, k) :: L) ∧ Tb0 P w L1 (SetTable.insertAt es (t.put (way t.mask (hS P w k) K)).2 (hS P w k, .ref x)) (t.put (way t.mask (hS P w k) K)).1 ∧ (t.put (way t.mask (hS P w k) K)).1.mask = t.mask ∧ (t.put (way t.mask (hS P w k) K)).1.fill = L.length + 1 := by
  obtain ⟨e1, e2, e3, e4, e5, _, _, _, e6⟩ := T.tab.put h2 h3
  generalize hq : SetTable.below t.place (way t.mask (hS P w k) K) = q at e1 e2 e3
  have pm := put_perm L q (x, k)
  refine ⟨L.take q ++ (x, k) :: L.drop q, pm, ⟨?_, ?_, ?_, by rw [e5]; exact T.led, by rw [pm.length_eq]; exact hf, ?_⟩, e4, by simpa using e6⟩
  · rw [SetTable.toList_insertAt, e1, T.rows, List.map_append, List.map_cons, List.map_take, List.map_drop]; rfl
  · simpa only [List.map_append, List.map_cons, List.map_take, List.map_drop] using e3
  · exact (pm.map (·.2)).nodup_iff.mpr (by simpa using ⟨by simpa using hm, T.nd⟩)
  · rw [pm.length_eq, e4, List.length_cons]
    have : L.length * 5 < t.mask * 3 := hR
    omega
theorem range_all {α : Type} : ∀ L : List α, (List.range L.length).filterMap (fun i => L[i]?) = L
  | [] => rfl
  | a :: L => by
    rw [List.length_cons, List.range_succ_eq_map, List.filterMap_cons_some (by rfl), List.filterMap_map]
    exact congrArg (a :: ·) (range_all L)
/-- the rows laid in another order -/
theorem Tb0.order (T : Tb0 P w L es t) {l : List Nat} (hp : l.Perm (List.range L.length)) : l.filterMap (fun i => es[i]?) = (l.filterMap fun i => L[i]?).map (ent P w) ∧ (l.filterMap fun i => L[i]?).Perm L ∧ ((l.filterMap fun i => L[i]?).map fun p => hS P w p.2) = l.map fun i => (es.map (·.1)).getD i 0 := by
  have one : ∀ i, es[i]? = (L[i]?).map (ent P w) := fun i => by rw [← Array.getElem?_toList, T.rows, List.getElem?_map]
  refine ⟨?_, ?_, ?_⟩
  · rw [List.map_filterMap]; exact congrFun (congrArg _ (funext one)) l
  · have := hp.filterMap (fun i => L[i]?)
    rwa [range_all] at this
  · have hl : ∀ i ∈ l, i < L.length := fun i hi => List.mem_range.mp (hp.mem_iff.mp hi)
    clear hp
    induction l with
    | nil => rfl
    | cons i l ih =>
      have hi := List.getElem?_eq_getElem (hl i (by simp))
      have e : (es.map (·.1)).getD i 0 = hS P w (L[i]'(hl i (by simp))).2 := by
        rw [Array.getD_eq_getD_getElem?, Array.getElem?_map, one, hi]; rfl
      rw [List.filterMap_cons_some hi, List.map_cons, List.map_cons, ih fun j hj => hl j (by simp [hj]), e]
/-- what the set is keeps, whatever else it holds -/
theorem IsS.same {h h' : Heap} {b : Addr} (hk : IsS P w h k b) (hA : At h a es t) (sb : Heap.SameBut a h h') : IsS P w h' k b := by
  obtain ⟨o, its, n, ho, hc, hd, hi⟩ := hk
  obtain ⟨o2, ep, ho2, _, hd2⟩ := hA
  refine ⟨o, its, n, (sb.2 b ?_).trans ho, hc, hd, hi⟩
  rintro rfl
  rw [ho] at ho2
  cases ho2
  rw [hd] at hd2
  cases hd2
theorem At.store (hA : At s.heap a es t) {es' : Array (Int × Value)} {t' : SetTable} (hz : es'.size ≤ sizeLine) {Q : Unit → Shared → Prop} (q : ∀ h', Heap.SameBut a s.heap h' → At h' a es' t' → Q () { s with heap := h' }) : wpAny (model P w) A (storeSet a es' t') Q E s := by
  obtain ⟨o, ep, ho, ex, hd⟩ := hA
  exact wpAny_storeSet_of ho hd (q _ (Heap.SameBut.update ..) ⟨_, _, store_at ho hd, ⟨ex.1, ex.2.1, ex.2.2⟩, rfl⟩) hz
theorem relay (T : Tb0 P w L es t) (hA : At s.heap a es t) {wanted M : Nat} (hw : SetTable.sizeAbove wanted - 1 = M) (hM : MaskOk M) (hw2 : SetTable.sizeAbove wanted ≤ 128) (hn : L.length * 5 < M * 3) {Q : Unit → Shared → Prop}
    (q : ∀ h' L' es' t', Heap.SameBut a s.heap h' → Tb0 P w L' es' t' → Roomy L' t' → At h' a es' t' → L'.Perm L → Q () { s with heap := h' }) : wpAny (model P w) A (setRelay a wanted) Q E s := by
  obtain ⟨t', order, e, hp, T', em, el, _, _⟩ := relaid_ok t (hs := es.map (·.1)) (wanted := wanted) hw hM (by rw [Array.size_map, T.len]; omega)
  rw [Array.size_map, T.len] at hp
  obtain ⟨r1, r2, r3⟩ := T.order hp
  rw [← r3] at T'
  have r4 : (order.filterMap (es[·]?)).toList = (order.toList.filterMap fun i => L[i]?).map (ent P w) := by rw [Array.toList_filterMap]; exact r1
  have r5 : (order.filterMap (es[·]?)).size = L.length := by rw [← Array.length_toList, r4, List.length_map, r2.length_eq]
  have few := T.few
  rw [setRelay_eq]
  refine wpAny_bind (At.state (M := model P w) T hA fun ep => ?_)
  dsimp only
  rw [if_neg (by rw [sizeLine_eq]; omega)]
  try refine wpAny_bind (wpAny_pure ?_)
  rw [e]
  dsimp only
  refine wpAny_bind ?_
  rw [if_neg (by rw [r5, T.len]; simp)]
  try refine wpAny_bind (wpAny_pure ?_)
  refine wpAny_pure ?_
  dsimp only
  refine At.store hA (by rw [r5, sizeLine_eq]; omega) fun h' sb hA' => q h' _ _ t' sb ⟨r4, T', (r2.map (·.2)).nodup_iff.mpr T.nd, by rw [el]; exact T.led, by rw [r2.length_eq]; exact few, by rw [r2.length_eq, em]; omega⟩ ?_ hA' r2
  show _ * 5 < t'.mask * 3
  rw [r2.length_eq, em]
  exact hn
/-- L' is L with p come to it, or L where p's like stands in it -/
structure Ext (L : KS) (p : Addr × List Str) (L' : KS) : Prop where
  sub : ∀ q ∈ L', q = p ∨ q ∈ L
  sup : ∀ j, j = p.2 ∨ j ∈ L.map (·.2) → j ∈ L'.map (·.2)
  len : L'.length ≤ L.length + 1
theorem Ext.of_perm {L L' : KS} {p : Addr × List Str} (pm : L'.Perm (p :: L)) : Ext L p L' :=
  ⟨fun q hq => List.mem_cons.mp (pm.mem_iff.mp hq), fun j hj => (pm.map (·.2)).mem_iff.mpr (List.mem_cons.mpr hj), by rw [pm.length_eq, List.length_cons]; omega⟩
/-- ADDING -/
theorem addS (T : Tb0 P w L es t) (hR : Roomy L t) (hA : At s.heap a es t) (hL : ∀ p ∈ L, IsS P w s.heap p.2 p.1) (hx : IsS P w s.heap k x) (hu : A.units < cLine) (hf : L.length + 1 < 64) {Q : Bool → Shared → Prop}
    (q : ∀ b h' L' es' t', Heap.SameBut a s.heap h' → Tb0 P w L' es' t' → Roomy L' t' → At h' a es' t' → Ext L (x, k) L' → Q b { s with heap := h' }) : wpAny (model P w) A (setAddHashed a (.ref x) (hS P w k)) Q E s := by
  unfold setAddHashed
  refine wpAny_holding ?_
  rw [show (100000 : Nat) = 99999 + 1 from rfl, setAddHashedIn_succ]
  refine wpAny_bind (At.state (M := model P w) T hA fun ep => ?_)
  dsimp only
  rw [if_neg (by simp [byScan, Value.scannable])]
  try refine wpAny_bind (wpAny_pure ?_)
  refine wpAny_bind (search T hR hA hL hx hu (fun hm => ?_) fun K hm h2 h3 => ?_)
  · exact wpAny_pure (q false s.heap L es t (Heap.SameBut.refl a s.heap) T hR hA ⟨fun q hq => .inr hq, fun j hj => hj.elim (fun e => e ▸ hm) id, by omega⟩)
  · dsimp only
    refine wpAny_bind (At.state (M := model P w) T hA fun ep => ?_)
    dsimp only
    obtain ⟨L1, pm, T1, e1, e2⟩ := T.put hR x hm h2 h3 hf
    generalize t.put (way t.mask (hS P w k) K) = pt at T1 e1 e2 ⊢
    obtain ⟨t1, p⟩ := pt
    dsimp only at T1 e1 e2 ⊢
    have l1 : L1.length = L.length + 1 := pm.length_eq
    -- behind the mark
    have rest : ∀ b : Bool, ∀ t2, t2 = (if b then t1 else { t1 with plain := false }) → wpAny (model P w) A (do
        storeSet a (SetTable.insertAt es p (hS P w k, .ref x)) t2
        if !false && t2.tooFull then setRelay a (SetTable.grown (es.size + 1))
        return true) Q E s := fun b t2 e => by
      have T2 : Tb0 P w L1 (SetTable.insertAt es p (hS P w k, .ref x)) t2 := by rw [e]; cases b; exact T1.mark false; exact T1
      have m2 : t2.mask = t.mask := by rw [e]; cases b <;> exact e1
      have f2 : t2.fill = L.length + 1 := by rw [e]; cases b <;> exact e2
      clear e
      refine wpAny_bind (At.store hA (by rw [T2.len, sizeLine_eq]; omega) fun h1 sb hA1 => ?_)
      have hRn : L.length * 5 < t.mask * 3 := hR
      by_cases full : t2.tooFull = true
      · rw [if_pos (by simp [full])]
        have ge : (L.length + 1) * 5 ≥ t2.mask * 3 := by
          have := full
          unfold SetTable.tooFull at this
          rwa [decide_eq_true_eq, f2] at this
        rw [T.len]
        have big : ∃ M, SetTable.sizeAbove (SetTable.grown (L.length + 1)) - 1 = M ∧ MaskOk M ∧ SetTable.sizeAbove (SetTable.grown (L.length + 1)) ≤ 128 ∧ L1.length * 5 < M * 3 := by
          rw [m2] at ge
          rcases T.tab.mok with z | z | z
          · rw [z] at ge hRn
            have z4 : L.length = 4 := by omega
            exact ⟨31, by rw [z4, size_20], .inr (.inl rfl), by rw [z4, size_20]; decide, by omega⟩
          · rw [z] at ge hRn
            have z18 : L.length = 18 := by omega
            exact ⟨127, by rw [z18, size_76], .inr (.inr rfl), by rw [z18, size_76]; decide, by omega⟩
          · rw [z] at ge; omega
        obtain ⟨M, b1, b2, b3, b4⟩ := big
        refine wpAny_bind (relay (s := { s with heap := h1 }) T2 hA1 b1 b2 b3 b4 fun h' L' es' t' sb' T' R' A' pm' => ?_)
        exact wpAny_pure (q true h' L' es' t' (sb.trans sb') T' R' A' (.of_perm (pm'.trans pm)))
      · rw [if_neg (by simp [full])]
        try refine wpAny_bind (wpAny_pure ?_)
        refine wpAny_pure (q true h1 L1 _ t2 sb T2 ?_ hA1 (.of_perm pm))
        have := full
        unfold SetTable.tooFull at this
        rw [decide_eq_true_eq, f2] at this
        show L1.length * 5 < t2.mask * 3
        omega
    by_cases pl : t1.plain = true
    · first
        | (rw [if_pos pl]; refine wpAny_bind (byV_tup hx fun b => ?_))
        | (refine wpAny_bind ?_; rw [if_pos pl]; refine byV_tup hx fun b => ?_)
      exact rest b _ rfl
    · first
        | (rw [if_neg pl]; refine wpAny_bind (wpAny_pure ?_))
        | (refine wpAny_bind ?_; rw [if_neg pl]; refine wpAny_pure ?_)
      exact rest true _ rfl
end
end Jw
end

section
set_option Elab.async false
set_option linter.all false
set_option maxRecDepth 100000
set_option maxHeartbeats 4000000
/-! Sets of tuples of texts, second part: set(xs). -/
namespace Jw
open PySem PySem.Spec PyProof.Rows L2 Jt
/-- at a stands the set of the tuples L -/
def IsSet (P : Program) (w : World) (h : Heap) (a : Addr) (L : KS) : Prop := ∃ es t, Tb0 P w L es t ∧ Roomy L t ∧ At h a es t
structure Took (ks : KS) (i : Nat) (L : KS) : Prop where
  sub : ∀ p ∈ L, p ∈ ks.take i
  sup : ∀ p ∈ ks.take i, p.2 ∈ L.map (·.2)
  len : L.length ≤ i
theorem Took.next {ks L L' : KS} {i : Nat} {p : Addr × List Str} (g : Took ks i L) (h : ks[i]? = some p) (e : Ext L p L') : Took ks (i + 1) L' := by
  have ht := take_next h
  refine ⟨fun q hq => ?_, fun q hq => e.sup _ ?_, by have := e.len; have := g.len; omega⟩
  · rw [ht]
    rcases e.sub q hq with rfl | hq
    · simp
    · exact List.mem_append_left _ (g.sub q hq)
  · rw [ht] at hq
    rcases List.mem_append.mp hq with hq | hq
    · exact .inr (g.sup q hq)
    · exact .inl (by rw [List.mem_singleton.mp hq])
section
variable {P : Program} {w : World} {A : Around} {E : Value → Shared → Prop} {s : Shared}
theorem IsSet.keep {h h' : Heap} {a : Addr} {L : KS} (R : IsSet P w h a L) (k : ∀ o, h.get? a = some o → h'.get? a = some o) : IsSet P w h' a L := by
  obtain ⟨es, t, T, R, o, ep, ho, r⟩ := R
  exact ⟨es, t, T, R, o, ep, k o ho, r⟩
theorem IsS.keep {h h' : Heap} {k : List Str} {b : Addr} (R : IsS P w h k b) (kp : ∀ b o, h.get? b = some o → h'.get? b = some o) : IsS P w h' k b := by
  obtain ⟨o, its, n, ho, r⟩ := R
  exact ⟨o, its, n, kp b o ho, r⟩
theorem set_new {h : Heap} {a : Addr} (ho : h.get? a = some { cls := .type "set", dict := none, data := .set #[] 0 (.fresh 0 0 (!w.params.followText "set-order")) }) : IsSet P w h a [] := by
  refine ⟨#[], .fresh 0 0 (!w.params.followText "set-order"), ⟨rfl, ⟨List.Pairwise.nil, rfl, rfl, .inl rfl, fun x hx => (by cases hx), fun i h j hi => (by simp at hi)⟩, List.nodup_nil, ?_, by decide, Nat.zero_le _⟩, (by decide : 0 * 5 < 7 * 3), _, 0, ho, ⟨rfl, rfl, rfl⟩, rfl⟩
  show _ ∨ (!w.params.followText "set-order") = true
  cases w.params.followText "set-order" <;> simp
/-- set.update's loop over a walk of tuples of texts -/
theorem updS {I : Addr} {fp wr : List Addr} {G : Array GenState → Array GenState → Prop} {n : Nat} {Pv : Nat → Value → Prop} {St : Nat → Shared → Prop} {R : Result → Shared → Prop} (W : WalksS P w A.in1 I fp wr G n Pv St) (S : Addr) (hS : S ∉ fp)
    (ks : KS) (hn : n = ks.length) (hf : ks.length < 64) (hv : ∀ i v, Pv i v → ∃ p, ks[i]? = some p ∧ v = .ref p.1) (h0 : Heap) (hk : ∀ p ∈ ks, IsS P w h0 p.2 p.1) (hS0 : h0.get? S = none) (hw0 : ∀ b ∈ wr, h0.get? b = none) (hu : A.in1.units < cLine) :
    ∀ (m i : Nat) (s : Shared) (L : KS), i + m = n → St i s → (∀ b o, h0.get? b = some o → s.heap.get? b = some o) → IsSet P w s.heap S L → Took ks i L →
      (∀ s' L', Moved (S :: wr) G s s' → IsSet P w s'.heap S L' → Took ks n L' → (∀ b o, h0.get? b = some o → s'.heap.get? b = some o) → R (.ok (.ret .none)) s') →
      codeAny (model P w) A (.builtin "set.update.loop" ⟨[.ref S, .ref I], []⟩) R s := by
  have hSw : S ∉ wr := fun h => hS (W.sub _ h)
  have inc : ∀ b ∈ wr, b ∈ S :: wr := fun b hb => List.mem_cons_of_mem _ hb
  have old : ∀ {s s' : Shared}, Moved wr G s s' → (∀ b o, h0.get? b = some o → s.heap.get? b = some o) → ∀ b o, h0.get? b = some o → s'.heap.get? b = some o := fun mv kp b o e =>
    mv.heap b o (fun hb => by rw [hw0 b hb] at e; cases e) (kp b o e)
  intro m
  induction m with
  | zero =>
    intro i s L hi st kp hs g hR
    obtain rfl : i = n := by omega
    refine codeAny_builtin F.entry_set_update_loop ?_
    rw [Around.under_plainId F.plain_set_update_loop _]
    show wpAny _ A.in1 (pyNext (.ref I) >>= _) _ _ s
    refine wpAny_bind (W.done s _ _ st fun s' mv => ?_)
    show wpAny _ A.in1 (ret Value.none) _ _ s'
    exact wpAny_pure (hR s' L (mv.mono inc) (hs.keep fun o e => mv.heap S o hSw e) g (old mv kp))
  | succ m ih =>
    intro i s L hi st kp hs g hR
    refine codeAny_builtin F.entry_set_update_loop ?_
    rw [Around.under_plainId F.plain_set_update_loop _]
    show wpAny _ A.in1 (pyNext (.ref I) >>= _) _ _ s
    refine wpAny_bind (W.item i s _ _ (by omega) st fun v s1 hP st1 mv => ?_)
    obtain ⟨p, hp, rfl⟩ := hv i v hP
    have kp1 := old mv kp
    have all1 : ∀ q ∈ ks, IsS P w s1.heap q.2 q.1 := fun q hq => (hk q hq).keep kp1
    have hx := all1 p (List.mem_of_getElem? hp)
    obtain ⟨es, t, T, Rm, hA⟩ := hs.keep (h' := s1.heap) fun o e => mv.heap S o hSw e
    show wpAny _ A.in1 (holding [Value.ref p.1] (setAdd S (.ref p.1)) >>= _) _ _ s1
    refine wpAny_bind (wpAny_holding ?_)
    unfold setAdd
    refine wpAny_holding (wpAny_bind (wpAny_pyHash_tuple hu hx ?_))
    have hi2 : i < n := by omega
    have gl := g.len
    refine addS (s := { s1 with toks := s1.toks + (p.2.length + 1) }) T Rm hA (fun q hq => all1 q (List.mem_of_mem_take (g.sub q hq))) hx hu (by omega) fun b h' L' es' t' sb T' R' A' ex => ?_
    have kp2 : ∀ b o, h0.get? b = some o → h'.get? b = some o := fun b o e => (sb.2 b fun z => by rw [z, hS0] at e; cases e).trans (kp1 b o e)
    refine wpAny_pure ⟨plainId_quiet F.plain_set_update_loop _, ih (i + 1) _ L' (by omega) (W.frame _ s1 _ _ st1 (Nat.le_add_right _ _) fun b hb o e => ?_) kp2 ⟨es', t', T', R', A'⟩ (g.next hp ex) fun s2 L2 mv2 hs2 g2 kp3 => hR s2 L2 (Moved.trans W.gtrans ((mv.mono inc).then_heap (Nat.le_add_right _ _) fun b o hb e => ?_) mv2) hs2 g2 kp3⟩
    · exact (sb.2 b fun z => hS (z ▸ hb)).trans e
    · exact (sb.2 b fun z => hb (by rw [z]; exact List.mem_cons_self)).trans e
end
end Jw
end

section
set_option Elab.async false
set_option linter.all false
set_option maxRecDepth 100000
set_option maxHeartbeats 4000000
/-! Sets of tuples of texts, third part: the calls set(xs), len(s), sorted(s). -/
namespace Jw
open PySem PySem.Spec PyProof.Rows L2 Jt JH
section
variable {P : Program} {w : World} {A : Around} {E : Value → Shared → Prop} {s : Shared}
/-- the loop over an iterator that stands at its beginning -/
theorem fillLoop {I S l : Addr} {items : Array Value} {St : Nat → Shared → Prop} (ks : KS) (W : WalksS P w A.in1 I [I, l] [I] (fun a b => b = a) items.size (fun i v => items[i]? = some v) St) (hit : items.toList = ks.map fun p => Value.ref p.1)
    (hf : ks.length < 64) (hu : A.in1.units < cLine) (h0 : Heap) (hk : ∀ p ∈ ks, IsS P w h0 p.2 p.1) (hS0 : h0.get? S = none) (hI0 : h0.get? I = none) (hSI : S ≠ I) (hSl : S ≠ l) (st : St 0 s) (kp : ∀ b o, h0.get? b = some o → s.heap.get? b = some o)
    (hS : s.heap.get? S = some { cls := .type "set", dict := none, data := .set #[] 0 (.fresh 0 0 (!w.params.followText "set-order")) }) {R : Result → Shared → Prop}
    (q : ∀ h' tk L, IsSet P w h' S L → Took ks ks.length L → (∀ b o, h0.get? b = some o → h'.get? b = some o) → R (.ok (.ret .none)) { s with heap := h', toks := tk }) :
    codeAny (model P w) A (.builtin "set.update.loop" ⟨[.ref S, .ref I], []⟩) R s := by
  have hz : items.size = ks.length := by rw [← Array.length_toList, hit, List.length_map]
  refine updS W S (by simp [hSI, hSl]) ks hz hf (fun i v hv => ?_) h0 hk hS0 (fun b hb => by rw [List.mem_singleton.mp hb]; exact hI0) hu items.size 0 s [] (Nat.zero_add _) st kp (set_new hS) ⟨fun p hp => (by cases hp), fun p hp => (by simp at hp), Nat.le_refl _⟩ fun s' L mv hs g k => ?_
  · rw [← Array.getElem?_toList, hit, List.getElem?_map] at hv
    obtain ⟨p, hp, e⟩ := Option.map_eq_some_iff.mp hv
    exact ⟨p, hp, e.symm⟩
  · have m2 := mv.gens
    have m3 := mv.drawn
    have m4 := mv.os
    obtain ⟨hp, gs, dr, tk, os⟩ := s'
    dsimp only at m2 m3 m4 hs k
    subst m2 m3 m4
    rw [hz] at g
    exact q hp tk L hs g k
/-- set.__init__ on a new set, given a list or a tuple -/
theorem initS {S l : Addr} {items : Array Value} (ks : KS) {Q : PySem.Fin → Shared → Prop} (hh : A.handled = none) (hl : s.heap.IsList l items ∨ s.heap.IsTuple l items) (hit : items.toList = ks.map fun p => Value.ref p.1) (hf : ks.length < 64) (hu : A.in1.units < cLine) (h0 : Heap) (hk : ∀ p ∈ ks, IsS P w h0 p.2 p.1)
    (hS0 : h0.get? S = none) (hI0 : h0.get? s.heap.objs.size = none) (hSl : S ≠ l) (kp : ∀ b o, h0.get? b = some o → s.heap.get? b = some o) (hS : s.heap.get? S = some { cls := .type "set", dict := none, data := .set #[] 0 (.fresh 0 0 (!w.params.followText "set-order")) })
    (q : ∀ h' tk L, IsSet P w h' S L → Took ks ks.length L → (∀ b o, h0.get? b = some o → h'.get? b = some o) → Q (.done (.ret .none)) { s with heap := h', toks := tk }) :
    wpAny (model P w) A (Builtin.«set.__init__» ⟨[.ref S, .ref l], []⟩) Q E s := by
  have hT : s.TypeIs (.ref S) "set" := ⟨_, hS, rfl⟩
  have hSn : S ≠ s.heap.objs.size := Nat.ne_of_lt (Heap.lt_size hS)
  rcases hl with hl | hl
  · obtain ⟨⟨oc, od, ot, os⟩, ho, hc, n, hd⟩ := id hl
    replace hc : oc = .type "list" := hc
    replace hd : ot = .seq items n := hd
    subst hc hd
    have ln : l ≠ s.heap.objs.size := Nat.ne_of_lt (Heap.lt_size ho)
    have no1 := F.sub_list_set
    have no2 := F.sub_list_frozenset
    have no3 : (Value.type "list" == Value.type "dict") = false := by decide
    unfold Builtin.«set.__init__» noKeywords Builtin.Frozenset.updateFrom
    generalize hPI : pyIter = PI
    wp_walk
    subst hPI
    refine wpAny_pyIter_list hl ?_
    refine wpAny_bind (wpAny_runValue (fillLoop ks (Walks.list (A := A.in1) hh s.heap.objs.size l ln items).toS hit hf hu h0 hk hS0 hI0 hSn hSl ⟨⟨_, Heap.get?_push_size _ rfl, rfl, rfl⟩, hl.push _⟩ (fun b o e => Heap.get?_push_of_some _ (kp b o e)) (Heap.get?_push_of_some _ hS) fun h' tk L g1 g2 g3 => ?_))
    show wpAny _ _ _ _ _ _
    refine wpAny_pure ?_
    exact wpAny_pure (q h' tk L g1 g2 g3)
  · obtain ⟨⟨oc, od, ot, os⟩, ho, hc, n, hd⟩ := id hl
    replace hc : oc = .type "tuple" := hc
    replace hd : ot = .seq items n := hd
    subst hc hd
    have ln : l ≠ s.heap.objs.size := Nat.ne_of_lt (Heap.lt_size ho)
    have no1 := F.sub_tuple_set
    have no2 := F.sub_tuple_frozenset
    have no3 : (Value.type "tuple" == Value.type "dict") = false := by decide
    unfold Builtin.«set.__init__» noKeywords Builtin.Frozenset.updateFrom
    generalize hPI : pyIter = PI
    wp_walk
    subst hPI
    refine wpAny_pyIter_tuple hl ?_
    refine wpAny_bind (wpAny_runValue (fillLoop ks (Walks.tuple (A := A.in1) hh s.heap.objs.size l ln items).toS hit hf hu h0 hk hS0 hI0 hSn hSl ⟨⟨_, Heap.get?_push_size _ rfl, rfl, rfl⟩, hl.push _⟩ (fun b o e => Heap.get?_push_of_some _ (kp b o e)) (Heap.get?_push_of_some _ hS) fun h' tk L g1 g2 g3 => ?_))
    show wpAny _ _ _ _ _ _
    refine wpAny_pure ?_
    exact wpAny_pure (q h' tk L g1 g2 g3)
theorem none_at {h : Heap} {b : Addr} (hb : h.objs.size ≤ b) : h.get? b = none := by
  cases q : h.get? b with
  | none => rfl
  | some o => exact absurd (Heap.lt_size q) (Nat.not_lt.mpr hb)
/-- set(xs) -/
theorem call_setS {l : Addr} {items : Array Value} (ks : KS) {Q : Value → Shared → Prop} (hh : A.handled = none) (hl : s.heap.IsList l items ∨ s.heap.IsTuple l items) (hit : items.toList = ks.map fun p => Value.ref p.1) (hk : ∀ p ∈ ks, IsS P w s.heap p.2 p.1) (hf : ks.length < 64) (hu : A.units + 8 < cLine)
    (q : ∀ h' tk L, IsSet P w h' s.heap.objs.size L → Took ks ks.length L → (∀ b o, s.heap.get? b = some o → h'.get? b = some o) → Q (.ref s.heap.objs.size) { s with heap := h', toks := tk }) :
    wpAny (model P w) A (call (.type "set") [.ref l]) Q E s := by
  have hlt : l < s.heap.objs.size := by rcases hl with ⟨o, ho, _⟩ | ⟨o, ho, _⟩ <;> exact Heap.lt_size ho
  obtain ⟨c0, mr, em⟩ := F.called_set.mro
  have f1 := F.called_set.made
  have f2 := F.called_set.sub
  have f3 := F.called_set.notType
  have f4 := F.called_set.canCreate
  have f5 := F.typeCall_set_1 (.ref l)
  refine wpAny_call (codeAny_of_tree ?_)
  show wpAny (model P w) _ (callAny (.type "set") ⟨[.ref l], []⟩) _ _ s
  refine wpAny_pure ⟨Code.quiet_builtin _ (by decide +kernel), codeAny_builtin F.entry_type_call ?_⟩
  rw [Around.under_plain (weight_type_call_type "set" [.ref l] []) rfl]
  repeat (any_goals (first | assumption | wp_step))
  refine codeAny_mono (code_set_led1 (.ref l) (E := E) (Q₁ := fun v t => v = .ref s.heap.objs.size ∧ t = { s with heap := s.heap.push { cls := .type "set", dict := none, data := .set #[] 0 (.fresh 0 0 (!w.params.followText "set-order")) } }) ⟨rfl, rfl⟩) fun r t hr => ?_
  match r, hr with
  | .error e, hr => exact hr
  | .ok (.ret v), ⟨ev, et⟩ =>
    subst ev et
    have new : (s.heap.push { cls := .type "set", dict := none, data := .set #[] 0 (.fresh 0 0 (!w.params.followText "set-order")) }).get? s.heap.objs.size = some { cls := .type "set", dict := none, data := .set #[] 0 (.fresh 0 0 (!w.params.followText "set-order")) } := Heap.get?_push_size _ rfl
    have hT : Shared.TypeIs { s with heap := s.heap.push { cls := .type "set", dict := none, data := .set #[] 0 (.fresh 0 0 (!w.params.followText "set-order")) } } (.ref s.heap.objs.size) "set" := ⟨_, new, rfl⟩
    have f6 := F.called_set.init.lookup
    have f7 := F.called_set.init.bind (.ref s.heap.objs.size)
    repeat (any_goals (first | assumption | wp_step))
    refine codeAny_mono (codeAny_call_builtin (R := wants (fun r t => r = .none ∧ ∃ h' tk L, t = { s with heap := h', toks := tk } ∧ IsSet P w h' s.heap.objs.size L ∧ Took ks ks.length L ∧ ∀ b o, s.heap.get? b = some o → h'.get? b = some o) E) F.called_set.init.plain F.entry_set_init (check_set_init_1 hT ?_)) fun r2 t2 hr2 => ?_
    · refine initS (s := { s with heap := s.heap.push { cls := .type "set", dict := none, data := .set #[] 0 (.fresh 0 0 (!w.params.followText "set-order")) } }) ks hh (hl.imp (·.push _) (·.push _)) hit hf (by simp only [Around.in1_units]; omega) s.heap hk (none_at (Nat.le_refl _)) (none_at (by rw [Heap.size_push]; omega)) (Nat.ne_of_gt hlt) (fun b o e => Heap.get?_push_of_some _ e) new fun h' tk L g1 g2 g3 => ?_
      exact ⟨rfl, h', tk, L, rfl, g1, g2, g3⟩
    · match r2, hr2 with
      | .error e, hr2 => exact hr2
      | .ok (.ret v), ⟨ev, h', tk, L, et, g1, g2, g3⟩ =>
        subst ev et
        repeat (any_goals (first | assumption | wp_step))
        exact q h' tk L g1 g2 g3
theorem perm_refs {α β : Type} {f : α → β} {vs ws : List β} (p : vs.Perm ws) : ∀ L, ws = L.map f → ∃ L1 : List α, vs = L1.map f ∧ L1.Perm L := by
  induction p with
  | nil => intro L e; exact ⟨L, e, .refl _⟩
  | cons x _ ih =>
    intro L e
    cases L with
    | nil => cases e
    | cons a L =>
      obtain ⟨e1, e2⟩ := List.cons.inj e
      obtain ⟨L1, r1, r2⟩ := ih L e2
      exact ⟨a :: L1, by rw [e1, r1]; rfl, r2.cons a⟩
  | swap x y l =>
    intro L e
    match L, e with
    | a :: b :: L, e =>
      simp only [List.map_cons, List.cons.injEq] at e
      exact ⟨b :: a :: L, by simp [e], .swap a b L⟩
  | trans _ _ ih1 ih2 =>
    intro L e
    obtain ⟨L2, r1, r2⟩ := ih2 L e
    obtain ⟨L1, r3, r4⟩ := ih1 L2 r1
    exact ⟨L1, r3, r4.trans r2⟩
end
def dS (k : List Str) : PyData := .tuple (k.map .str)
theorem alike_strs : ∀ k j : List Str, PySem.W.alikeAll (k.map .str) (j.map .str) = true
  | [], _ => by simp [PySem.W.alikeAll]
  | _ :: _, [] => by simp [PySem.W.alikeAll]
  | x :: k, y :: j => by simp only [List.map_cons, PySem.W.alikeAll, alike_strs k j, PySem.W.alike, Bool.and_self]
theorem depth_strs : ∀ k : List Str, PyData.depthAll (k.map .str) = 0
  | [] => by simp [PyData.depthAll]
  | x :: k => by rw [List.map_cons, PyData.depthAll, depth_strs k]; simp [PyData.depth]
section
variable {P : Program} {w : World} {A : Around} {E : Value → Shared → Prop} {s : Shared}
/-- what a set of tuples of texts is collected as: its rows in some order -/
theorem collects_set {a : Addr} {L : KS} (S : IsSet P w s.heap a L) (hh : A.handled = none) (rd : ∀ p ∈ L, ∃ as, Reads s.heap (.ref p.1) (dS p.2) as) :
    Collects P w A s a (fun v (p : Addr × List Str) => v = .ref p.1 ∧ ∃ as, Reads s.heap v (dS p.2) as) (·.Perm L) := fun E Q q => by
  obtain ⟨es, t, T, _, o, ep, ho, ex, hd⟩ := S
  have few := T.few
  have len := T.len
  have rows : es.toList.map (·.2) = L.map fun p => Value.ref p.1 := by rw [T.rows, List.map_map]; rfl
  refine collect_set hh ⟨o, ho, ex.1, hd⟩ T.fits (by unfold scanBound; omega) T.tab.ris T.led fun s1 vs k _ g1 o1 pm => ?_
  obtain ⟨L1, rfl, pL⟩ := perm_refs pm L rows
  have each : ∀ M : KS, (∀ p ∈ M, p ∈ L) → PySem.W.EachIs (fun v (p : Addr × List Str) => v = .ref p.1 ∧ ∃ as, Reads s.heap v (dS p.2) as) (M.map fun p => Value.ref p.1) M := fun M => by
    induction M with
    | nil => intro _; exact .nil
    | cons p M ih => intro hM; exact .cons ⟨rfl, rd p (hM p List.mem_cons_self)⟩ (ih fun r hr => hM r (List.mem_cons_of_mem _ hr))
  exact q s1 _ L1 k g1 o1 pL (each L1 fun p hp => pL.mem_iff.mp hp)
theorem refs_each {out : List Value} {M : KS} (h : PySem.W.EachIs (fun v (p : Addr × List Str) => v = .ref p.1 ∧ ∃ as, Reads s.heap v (dS p.2) as) out M) : Vals (M.map fun p => V.ref p.1) out := by
  induction h with
  | nil => exact .nil
  | cons h1 _ ih => exact .cons h1.1 ih
end
/-! the rules -/
/-- the set at a -/
def SetSO (P : Program) (w : World) (a : Addr) (L : KS) : HO := .ext fun h => IsSet P w h a L
def rSetS (K : PySem.W.Frag) (P : Program) (w : World) : List V → Hp → VK → Prop := fun xs H Q => ∃ (l : Addr) (ks : KS), xs = [V.ref l] ∧ (SqL K H l (ks.map fun p => V.ref p.1) ∨ SqT K H l (ks.map fun p => V.ref p.1)) ∧ (∀ p ∈ ks, SqT K H p.1 (p.2.map V.str)) ∧ ks.length < 64 ∧
  ∀ a L, H a = none → (∀ p ∈ L, p ∈ ks) → (∀ p ∈ ks, p.2 ∈ L.map (·.2)) → (L.map (·.2)).Nodup → Q (.ref a) (upd H a (SetSO P w a L))
def rLenSetS (P : Program) (w : World) : List V → Hp → VK → Prop := fun xs H Q => ∃ (a : Addr) (L : KS), xs = [V.ref a] ∧ H a = some (SetSO P w a L) ∧ Q (.int L.length) H
def rSortSetS (K : PySem.W.Frag) (P : Program) (w : World) : List V → Hp → VK → Prop := fun xs H Q => ∃ (a : Addr) (L : KS), xs = [V.ref a] ∧ H a = some (SetSO P w a L) ∧ (∀ p ∈ L, SqT K H p.1 (p.2.map V.str) ∧ p.2 ≠ []) ∧
  ∀ (L' : KS) (p : Addr), L'.Perm L → L'.Pairwise (fun q r => PySem.W.dataLt (dS r.2) (dS q.2) = false) → H p = none → Q (.ref p) (upd H p (.lst (L'.map fun q => V.ref q.1)))
theorem setSO_new {P : Program} {w : World} {H : Hp} {h : Heap} {a : Addr} {L : KS} (R : IsSet P w h a L) : ObjOk P w H h a (SetSO P w a L) := by
  have ⟨es, t, T, Rm, o, ep, ho, r⟩ := R
  exact ⟨R, ⟨o, ho⟩, fun h1 h2 p k => IsSet.keep p k⟩
theorem refs_of : ∀ {ks : KS} {us : List Value}, Vals (ks.map fun p => V.ref p.1) us → us = ks.map fun p => Value.ref p.1
  | [], _, .nil => rfl
  | p :: ks, _, .cons r t => by
    cases r
    rw [refs_of t]; rfl
theorem strs_vals {P : Program} {w : World} : ∀ {k : List Str} {us : List Value}, Vals (k.map V.str) us → ItemsAre (sKd P w) k us
  | [], _, .nil => .nil
  | x :: k, _, .cons r t => by
    obtain ⟨tk, rfl⟩ := r
    exact .cons (by simp [PySem.strKind, Value.isStrOf]) (strs_vals t)
section
variable {X : Cx}
theorem isS_of {pins : List (Addr × Obj)} {σ : L2.St} {H : Hp} {s : Shared} {b : Addr} {k : List Str} (I : Inv X pins σ H s) (h : SqT X.K H b (k.map V.str)) : IsS X.prog X.w s.heap k b := by
  obtain ⟨its, r, ⟨o, ho, hc, n, hd⟩, _⟩ := I.tuple h
  exact ⟨o, its.toArray, n, ho, hc, hd, by simpa using strs_vals r⟩
theorem dp_strs {K : PySem.W.Frag} {H : Hp} : ∀ k : List Str, DpAll K H (k.map V.str) (k.map .str)
  | [] => .nil
  | x :: k => .cons (.str x) (dp_strs k)
variable (K : PySem.W.Frag) (P : Program) (w : World)
theorem setS (hc : X.calm = true) (hu : X.A.units + 64 < cLine) (h : X.K = K := by rfl) (hp : X.prog = P := by rfl) (hw : X.w = w := by rfl) : CallR X (.type "set") (rSetS K P w) := by
  subst h hp hw
  intro pins s σ H vs us Q I r h
  obtain ⟨l, ks, rfl, hl, hk, hf, q⟩ := h
  rw [Vals.ref1 r]
  have seq : ∃ its : List Value, Vals (ks.map fun p => V.ref p.1) its ∧ (s.heap.IsList l its.toArray ∨ s.heap.IsTuple l its.toArray) := by
    rcases hl with hl | hl
    · obtain ⟨its, rv, pl, _⟩ := I.list hl
      exact ⟨its, rv, .inl pl.isList⟩
    · obtain ⟨its, rv, pl, _⟩ := I.tuple hl
      exact ⟨its, rv, .inr pl⟩
  obtain ⟨its, rv, hs⟩ := seq
  have hn : H s.heap.objs.size = none := I.hok.fresh (Nat.le_refl _)
  refine call_setS (P := X.prog) (w := X.w) ks (I.ok.hd hc) hs (by simpa using refs_of rv) (fun p hp => isS_of I (hk p hp)) hf (by omega) fun h' tk L R g k => ?_
  have nd : (L.map (·.2)).Nodup := let ⟨_, _, T, _⟩ := R; T.nd
  refine ⟨.ref s.heap.objs.size, upd H s.heap.objs.size (SetSO X.prog X.w s.heap.objs.size L), I.laid (t' := tk) k (Nat.le_refl _) (setSO_new R), rfl, q _ L hn (fun p hp => List.mem_of_mem_take (g.sub p hp)) (fun p hp => g.sup p ?_) nd⟩
  rw [List.take_length]; exact hp
theorem lenSetS (hp : X.prog = P := by rfl) (hw : X.w = w := by rfl) : CallR X (.builtin "len") (rLenSetS P w) := by
  subst hp hw
  intro pins s σ H vs us Q I r h
  obtain ⟨a, L, rfl, ha, q⟩ := h
  rw [Vals.ref1 r]
  have R : IsSet X.prog X.w s.heap a L := (I.hok a _ ha).1
  obtain ⟨es, t, T, Rm, o, ep, ho, ex, hd⟩ := R
  have few := T.few
  exact call_len_set ho ex hd T.fits (by rw [T.len]; omega) ⟨.int L.length, H, I.tok _, ⟨_, by rw [T.len]⟩, q⟩
theorem sortSetS (hc : X.calm = true) (hu : X.A.units + 64 < cLine) (h : X.K = K := by rfl) (hp : X.prog = P := by rfl) (hw : X.w = w := by rfl) : CallR X (.builtin "sorted") (rSortSetS K P w) := by
  subst h hp hw
  rintro pins s σ H vs us Q I r ⟨a, L, rfl, ha, tu, q⟩
  rw [Vals.ref1 r]
  have S : IsSet X.prog X.w s.heap a L := (I.hok a _ ha).1
  have few : L.length < 64 := let ⟨_, _, T, _⟩ := S; T.few
  refine sort_any (enc := fun p : Addr × List Str => dS p.2) (collects_set (A := X.A.in1) S (I.ok.hd hc) fun p hp => Dp.reads I _ _ _ (.tup (tu p hp).1 (dp_strs p.2)) rfl) (fun _ _ z => z.2) (fun M pM => ⟨PySem.W.AllAlike.of fun p r => by simp only [dS, PySem.W.alike]; exact alike_strs _ _, .inl fun d hd => ?_, by rw [pM.length_eq, sizeLine_eq]; omega, fun p _ => ?_⟩)
    fun s1 s2 D out c M zs k1 k2 g o hD at_D pM pm pw ea => ep_sorted I k1 k2 g o hD at_D (by rw [List.length_map, pm.length_eq, pM.length_eq, sizeLine_eq]; omega) (refs_each ea) fun fr => q zs D (pm.trans pM) pw fr
  · obtain ⟨p, hp, rfl⟩ := List.mem_map.mp hd
    have ne := (tu p (pM.mem_iff.mp hp)).2
    cases hq : p.2 with
    | nil => exact absurd hq ne
    | cons x k => exact ⟨.str x, k.map .str, by rw [dS, List.map_cons]⟩
  · have := depth_strs p.2
    simp only [dS, PyData.depth, this]
    omega
end
end Jw
end

section
set_option Elab.async false
set_option linter.all false
set_option maxRecDepth 100000
set_option maxHeartbeats 4000000
/-! Sets of tuples of texts, last part: read for lots. -/
namespace Jw
open PySem PySem.Spec PyProof.Rows L2 Jt JH
/-! ### read for lots -/
section
variable {K : PySem.W.Frag} {P : Program} {w : World} {te : TE} {σ : L2.St} {H : Hp} {nm : Nat → Str} {n : Nat}
theorem lots_ks {H : Hp} {xs : List V} {o : List (List Nat)} (h : P2 (LotV nm H) xs o) : ∃ ks : KS, xs = ks.map (fun p => V.ref p.1) ∧ ks.map (·.2) = o.map (·.map nm) ∧ ∀ p ∈ ks, SqT K H p.1 (p.2.map V.str) := by
  induction h with
  | nil => exact ⟨[], rfl, rfl, fun p hp => by cases hp⟩
  | cons r hr ih =>
    rename_i v l xs o
    obtain ⟨ks, e1, e2, e3⟩ := ih
    obtain ⟨p, rfl, hp⟩ := r
    refine ⟨(p, l.map nm) :: ks, by rw [e1]; rfl, by simp [e2], fun q hq => ?_⟩
    rcases List.mem_cons.mp hq with e | hq
    · subst e
      have : l.map (sv nm) = (l.map nm).map V.str := by rw [List.map_map]; rfl
      show SqT K H p ((l.map nm).map V.str)
      rw [← this]; exact SqT.of hp
    · exact e3 q hq
theorem nm_lots_inj (N : Nm nm n) : ∀ {l m : List Nat}, (∀ x ∈ l, x < n) → (∀ x ∈ m, x < n) → l.map nm = m.map nm → l = m
  | [], [], _, _, _ => rfl
  | [], _ :: _, _, _, e => by simp at e
  | _ :: _, [], _, _, e => by simp at e
  | a :: l, b :: m, h1, h2, e => by
    simp only [List.map_cons, List.cons.injEq] at e
    rw [N.inj (h1 a (by simp)) (h2 b (by simp)) e.1, nm_lots_inj N (fun x hx => h1 x (by simp [hx])) (fun x hx => h2 x (by simp [hx])) e.2]
/-- len(set(lots)): no more than the lots, and as many only where none stands twice -/
theorem gv_lenSet (N : Nm nm n) (Pa : List (List Nat) → Prop) (h : Gv te σ H fun H1 v => ∃ o, Pa o ∧ SqV K (LotV nm) H1 v o) (hl : ∀ o, Pa o → o.length < 64 ∧ ∀ l ∈ o, ∀ x ∈ l, x < n) :
    Gv (tCB (rLenSetS P w) (tCons (tCB (rSetS K P w) (tCons te tNil)) tNil)) σ H fun _ r => ∃ o m, Pa o ∧ r = .int (m : Nat) ∧ m ≤ o.length ∧ (m = o.length ↔ o.Nodup) := fun Q q => by
  refine r_b1 (r_b1 (gv_use h fun v H1 s1 ⟨o, pa, p, xs, e, hp, r⟩ => ?_))
  obtain ⟨ks, e1, e2, e3⟩ := lots_ks (K := K) r
  have hlen : ks.length = o.length := by have := congrArg List.length e2; simpa using this
  obtain ⟨h64, hlt⟩ := hl o pa
  refine ⟨p, ks, by rw [e], by rw [← e1]; exact hp, e3, by omega, fun a L ha h1 h2 h3 => ⟨a, L, rfl, upd_same, q _ _ (s1.trans (same_new ha _)) ⟨o, L.length, pa, rfl, ?_, ?_⟩⟩⟩
  · have hL : L.Nodup := List.Pairwise.of_map (·.2) (fun _ _ hne e => hne (congrArg _ e)) h3
    rw [← hlen]
    exact hL.length_le_of_subset fun x hx => h1 x hx
  · have hks : (ks.map (·.2)).Nodup ↔ o.Nodup := by
      rw [e2]
      constructor
      · exact fun h => List.Pairwise.of_map _ (fun _ _ hne e => hne (congrArg _ e)) h
      · intro h
        refine List.pairwise_map.mpr (h.imp_of_mem fun {a b} ha hb hn e => hn (nm_lots_inj N (hlt a ha) (hlt b hb) e))
    rw [← hks, ← hlen]
    have sub1 : L.map (·.2) ⊆ ks.map (·.2) := fun x hx => let ⟨p, hp, e⟩ := List.mem_map.mp hx; List.mem_map.mpr ⟨p, h1 p hp, e⟩
    have sub2 : ks.map (·.2) ⊆ L.map (·.2) := fun x hx => let ⟨p, hp, e⟩ := List.mem_map.mp hx; e ▸ h2 p hp
    constructor
    · intro e
      have p1 : (L.map (·.2)).Perm (ks.map (·.2)) := by
        exact perm_of_sub h3 sub1 (by simp [e])
      exact p1.nodup_iff.mp h3
    · intro hn
      have l1 := h3.length_le_of_subset sub1
      have l2 := hn.length_le_of_subset sub2
      simp only [List.length_map] at l1 l2
      omega
end
end Jw
namespace Jw
open PySem PySem.Spec PyProof.Rows L2 Jt JH
section
variable {K : PySem.W.Frag} {P : Program} {w : World} {te : TE} {σ : L2.St} {H : Hp} {nm : Nat → Str} {n : Nat}
theorem lots_ks2 {H : Hp} {xs : List V} {o : List (List Nat)} (h : P2 (LotV nm H) xs o) : ∃ ks : KS, xs = ks.map (fun p => V.ref p.1) ∧ ks.map (·.2) = o.map (·.map nm) ∧ ∀ p ∈ ks, ∃ l ∈ o, p.2 = l.map nm ∧ H p.1 = some (.tup (l.map (sv nm))) := by
  induction h with
  | nil => exact ⟨[], rfl, rfl, fun p hp => by cases hp⟩
  | cons r hr ih =>
    rename_i v l xs o
    obtain ⟨ks, e1, e2, e3⟩ := ih
    obtain ⟨p, rfl, hp⟩ := r
    refine ⟨(p, l.map nm) :: ks, by rw [e1]; rfl, by simp [e2], fun q hq => ?_⟩
    rcases List.mem_cons.mp hq with e | hq
    · subst e; exact ⟨l, by simp, rfl, hp⟩
    · obtain ⟨l', hl', r⟩ := e3 q hq
      exact ⟨l', List.mem_cons_of_mem _ hl', r⟩
theorem dL_dS (l : List Nat) : dL nm l = dS (l.map nm) := by unfold dL dS; rw [List.map_map]; rfl
theorem map_sv (l : List Nat) : l.map (sv nm) = (l.map nm).map V.str := by rw [List.map_map]; rfl
theorem gv_sortSet (N : Nm nm n) (Pa : List (List Nat) → Prop) (h : Gv te σ H fun H1 v => ∃ o, Pa o ∧ SqV K (LotV nm) H1 v o) (hl : ∀ o, Pa o → o.length < 64 ∧ ∀ l ∈ o, l ≠ [] ∧ ∀ x ∈ l, x < n) :
    Gv (tCB (rSortSetS K P w) (tCons (tCB (rSetS K P w) (tCons te tNil)) tNil)) σ H fun H1 v => ∃ o bs, Pa o ∧ bs.Nodup ∧ (∀ l, l ∈ bs ↔ l ∈ o) ∧ Srt (dL nm) bs ∧ LstN (LotV nm) H H1 v bs := fun Q q => by
  refine r_b1 (r_b1 (gv_use h fun v H1 s1 ⟨o, pa, p, xs, e, hp, r⟩ => ?_))
  obtain ⟨ks, e1, e2, e3⟩ := lots_ks2 r
  have hlen : ks.length = o.length := by have := congrArg List.length e2; simpa using this
  obtain ⟨h64, hlt⟩ := hl o pa
  refine ⟨p, ks, by rw [e], by rw [← e1]; exact hp, fun q hq => ?_, by omega, fun a L ha h1 h2 h3 => ⟨a, L, rfl, upd_same, fun q hq => ?_, fun L' p2 pm pw hp2 => ?_⟩⟩
  · obtain ⟨l, _, e4, h4⟩ := e3 q hq
    rw [e4, ← map_sv]; exact SqT.of h4
  · obtain ⟨l, hlo, e4, h4⟩ := e3 q (h1 q hq)
    refine ⟨by rw [e4, ← map_sv]; exact SqT.of (same_new ha _ _ _ h4), fun z => (hlt l hlo).1 ?_⟩
    rw [e4] at z; exact List.map_eq_nil_iff.mp z
  · have hbs : ∀ M : KS, (∀ q ∈ M, q ∈ ks) → ∃ bs, P2 (fun (q : Addr × List Str) l => q.2 = l.map nm ∧ H1 q.1 = some (.tup (l.map (sv nm))) ∧ l ∈ o) M bs := by
      intro M
      induction M with
      | nil => intro _; exact ⟨[], .nil⟩
      | cons q M ih =>
        intro hM
        obtain ⟨bs, hb⟩ := ih fun q hq => hM q (List.mem_cons_of_mem _ hq)
        obtain ⟨l, hlo, e4, h4⟩ := e3 q (hM q List.mem_cons_self)
        exact ⟨l :: bs, .cons ⟨e4, h4, hlo⟩ hb⟩
    obtain ⟨bs, hb⟩ := hbs L' fun q hq => h1 q (pm.mem_iff.mp hq)
    have em : L'.map (·.2) = bs.map (·.map nm) := by
      clear pw pm
      induction hb with
      | nil => rfl
      | cons r _ ih => simp only [List.map_cons, r.1, ih]
    have hin : ∀ l ∈ bs, l ∈ o := by
      intro l hl
      obtain ⟨i, hi, rfl⟩ := List.getElem_of_mem hl
      obtain ⟨q, _, r⟩ := hb.get' (List.getElem?_eq_getElem hi)
      exact r.2.2
    have hnd : (bs.map (·.map nm)).Nodup := by rw [← em]; exact (pm.map (·.2)).nodup_iff.mpr h3
    have hp2' := hp2
    refine q _ _ ((s1.trans (same_new ha _)).trans (same_new hp2 _)) ⟨o, bs, pa, List.Pairwise.of_map _ (fun _ _ hne e => hne (congrArg _ e)) hnd, fun l => ⟨hin l, fun hlo => ?_⟩, ?_, p2, _, rfl, (s1.trans (same_new ha _)).free hp2, upd_same, ?_⟩
    · obtain ⟨q, hq, eq⟩ : ∃ q ∈ ks, q.2 = l.map nm := by
        have : l.map nm ∈ ks.map (·.2) := by rw [e2]; exact List.mem_map.mpr ⟨l, hlo, rfl⟩
        obtain ⟨q, hq, e⟩ := List.mem_map.mp this
        exact ⟨q, hq, e⟩
      have h4 : q.2 ∈ L'.map (·.2) := (pm.map (·.2)).mem_iff.mpr (h2 q hq)
      rw [eq, em] at h4
      obtain ⟨l', hl', e5⟩ := List.mem_map.mp h4
      rw [nm_lots_inj N (hlt l hlo).2 (hlt l' (hin l' hl')).2 e5.symm]
      exact hl'
    · have h5 : (L'.map (·.2)).Pairwise fun a b => PySem.W.dataLt (dS b) (dS a) = false := List.pairwise_map.mpr pw
      rw [em, List.pairwise_map] at h5
      exact h5.imp fun {a b} k => by rw [dL_dS, dL_dS]; exact k
    · have : ∀ {M : KS} {bs : List (List Nat)}, P2 (fun (q : Addr × List Str) l => q.2 = l.map nm ∧ H1 q.1 = some (.tup (l.map (sv nm))) ∧ l ∈ o) M bs → P2 (LotV nm H1) (M.map fun q => V.ref q.1) bs := by
        intro M bs h
        induction h with
        | nil => exact .nil
        | cons r _ ih => exact .cons ⟨_, rfl, r.2.1⟩ ih
      exact (this hb).imp fun _ _ k => tm_lot.same ((same_new ha _).trans (same_new hp2 _)) k
theorem tok_anti {x y : PyData} (h1 : PySem.W.dataLt x y = false) (h2 : PySem.W.dataLt y x = false) : PySem.W.keyToks x = PySem.W.keyToks y := (PyProof.Rows.listOrd PyProof.Rows.itemOrd).total _ _ h1 h2
/-- lots sorted alike are alike -/
theorem toks_inj (N : Nm nm n) : ∀ {l m : List Nat}, (∀ x ∈ l, x < n) → (∀ x ∈ m, x < n) → PySem.W.keyToks (dL nm l) = PySem.W.keyToks (dL nm m) → l = m := by
  intro l m hl hm e
  unfold dL at e
  rw [PySem.W.keyToks, PySem.W.keyToks] at e
  induction l generalizing m with
  | nil =>
    cases m with
    | nil => rfl
    | cons b m => simp [PySem.W.keyToksAll] at e
  | cons a l ih =>
    cases m with
    | nil => simp [PySem.W.keyToksAll] at e
    | cons b m =>
      simp only [List.map_cons, PySem.W.keyToksAll, PySem.W.keyToks, List.cons_append, List.nil_append, List.cons.injEq, true_and, Sum.inr.injEq] at e
      have e1 : nm a = nm b := PySem.W.str_of_cps e.1
      rw [N.inj (hl a (by simp)) (hm b (by simp)) e1, ih (fun x hx => hl x (by simp [hx])) (fun x hx => hm x (by simp [hx])) e.2]
theorem srt_eq (N : Nm nm n) {o o' : List (List Nat)} (hl : ∀ l ∈ o, ∀ x ∈ l, x < n) (p : o.Perm o') (h : Srt (dL nm) o) (h' : Srt (dL nm) o') : o = o' := by
  refine List.Perm.eq_of_pairwise (le := fun a b => PySem.W.dataLt (dL nm b) (dL nm a) = false) (fun a b ha hb h1 h2 => ?_) h h' p
  refine toks_inj N (hl a ha) (hl b (p.mem_iff.mpr hb)) ?_
  exact tok_anti h2 h1
end
end Jw
end

section
set_option Elab.async false
set_option linter.all false
set_option maxRecDepth 100000
set_option maxHeartbeats 4000000
/-! Calls of defs with keyword-only parameters. -/
namespace Jw
open PySem PySem.Spec PyProof.Rows L2 Jt JH
abbrev FnKD (K : PySem.W.Frag) (x : Str) (st : Stmt) (kws : List (Str × V)) (f : Addr) (fd : FuncData) : Prop := FunD K x x (defArgs st) (defBody st) (defScope st) [] kws f fd
structure CalD (P : Program) (w : World) (K : PySem.W.Frag) (mg : Str → Option Value) (base : Heap) (k : Nat) (x : Str) (ps : List Str) (sp : Sp) (dvs : List V) : Prop where
  ex : ∃ f fd ds, FnOk P w K mg base CX0 k f fd ps sp ∧ mg x = some (.ref f) ∧ PySem.W.keepIn K (.ref f) = true ∧ Binds K fd ps ds ∧ Vals dvs ds
structure CalK (P : Program) (w : World) (K : PySem.W.Frag) (mg : Str → Option Value) (base : Heap) (k : Nat) (x : Str) (ps : List Str) (sp : Sp) (n : Nat) (ks : List Str) : Prop where
  ex : ∃ f fd, FnOk P w K mg base CX0 k f fd ps sp ∧ mg x = some (.ref f) ∧ PySem.W.keepIn K (.ref f) = true ∧ KBn K fd ps n ks (fun us ws => us ++ ws) (fun vs zs => vs ++ zs)
section
variable {X : Cx} {k n : Nat} {ps ks : List Str} {sp : Sp} {x : Str} {p pos : Pos} {e : Expr} {es : List Expr} {t tk : TA} {dvs : List V} {kws : List Keyword}
theorem pe_calD (F : CalD X.prog X.w X.K X.mg X.base k x ps sp dvs) (hr : Room k X.A) (ha : PA X (e :: es) t) (hg : Gl X x := by rfl) (hdb : (x == ("__debug__" : Str)) = false := by decide)
    (he : starEach (e :: es) X.env = (false, eval e X.env) :: starEach es X.env := by rfl) (hpl : (backTo pos (starEach es X.env)).any (·.1) = false := by rfl) : PE X (.Call (.Name x p) (e :: es) [] pos) (tCall sp dvs E0 t) := by
  obtain ⟨f, fd, ds, G, m, kp, b, v⟩ := F.ex
  exact pe_call G hr hg m kp b v pass0 ha hdb he hpl
theorem pe_calK (F : CalK X.prog X.w X.K X.mg X.base k x ps sp n ks) (hr : Room k X.A) (ha : PA X (e :: es) t) (hkw : PK X kws tk) (hg : Gl X x := by rfl) (hall : (backToKw pos (keywordEach kws X.env)).all (·.1.isSome) = true := by rfl) (hks : (backToKw pos (keywordEach kws X.env)).filterMap (·.1) = ks := by rfl)
    (hdb : (x == ("__debug__" : Str)) = false := by decide) (he : starEach (e :: es) X.env = (false, eval e X.env) :: starEach es X.env := by rfl)
    (hpl : ((backTo pos (starEach (e :: es) X.env)).any (·.1) || (backToKw pos (keywordEach kws X.env)).any (·.1.isNone)) = false := by rfl) :
    PE X (.Call (.Name x p) (e :: es) kws pos) (tCallN n ks.length sp (fun vs zs => vs ++ zs) E0 t tk) := by
  obtain ⟨f, fd, G, m, kp, b⟩ := F.ex
  exact pe_callN G hr hg m kp b pass0 ha hkw hall hks hdb he hpl
end
section
variable {P : Program} {w : World} {K : PySem.W.Frag} {mg : Str → Option Value} {base : Heap} {k n : Nat} {f : Addr} {fd : FuncData} {st : Stmt} {x : Str} {ps ks : List Str} {sp : Sp} {kws : List (Str × V)}
theorem calD_mk (F : FnKD K x st kws f fd) (G : FnOk P w K mg base CX0 k f fd ps sp) (m : mg x = some (.ref f)) (n : Nat) (hk : kws ≠ []) (hn : n + kws.length = ps.length)
    (h : ∀ (D : Addr) (doc pm : Value) (an : Option Addr) (cdv ct : Value) (us ks : List Value), us.length = n → ks.length = kws.length →
      KwChain D ((kws.map (·.1)).zip ks) (bindArgs (PySem.W.fnOf x x (defArgs st) (defBody st) (defScope st) .none (.ref D) doc pm an cdv ct) ⟨us, []⟩) (ps.zip (us ++ ks))) : CalD P w K mg base k x ps sp (kws.map (·.2)) := by
  obtain ⟨ds, v, b⟩ := F.binds0 n hk hn h
  exact ⟨f, fd, ds, G, m, F.kp, b, v⟩
/-- all of them written -/
theorem calK_mk (F : FnKD K x st kws f fd) (G : FnOk P w K mg base CX0 k f fd ps sp) (m : mg x = some (.ref f)) (n : Nat) (ks : List Str)
    (h : ∀ (kV doc pm : Value) (an : Option Addr) (cdv ct : Value) (us ws : List Value), us.length = n → ws.length = ks.length →
      bindArgs (PySem.W.fnOf x x (defArgs st) (defBody st) (defScope st) .none kV doc pm an cdv ct) ⟨us, ks.zip ws⟩ = pure (ps.zip (us ++ ws))) : CalK P w K mg base k x ps sp n ks := by
  have kp := F.kp
  obtain ⟨oc, od, dV, kV, doc, pm, an, cdv, ct, osl, rfl, lk, hcd, hD, hK⟩ := F.ex
  rcases hD with ⟨_, rfl⟩ | ⟨e, _⟩
  · exact ⟨f, _, G, m, kp, fun s us ws _ l1 l2 => .of_eq (h kV doc pm an cdv ct us ws l1 l2), fun r1 r2 => r1.append r2⟩
  · exact absurd rfl e
/-- two and one -/
theorem bk21 {x : Str} {st : Stmt} {p1 p2 k1 : Str} (h : ∀ (kV doc pm : Value) (an : Option Addr) (cdv ct a b c : Value), bindArgs (PySem.W.fnOf x x (defArgs st) (defBody st) (defScope st) .none kV doc pm an cdv ct) ⟨[a, b], [(k1, c)]⟩ = pure ([p1, p2, k1].zip [a, b, c]))
    (kV doc pm : Value) (an : Option Addr) (cdv ct : Value) (us ws : List Value) (l1 : us.length = 2) (l2 : ws.length = [k1].length) : bindArgs (PySem.W.fnOf x x (defArgs st) (defBody st) (defScope st) .none kV doc pm an cdv ct) ⟨us, [k1].zip ws⟩ = pure ([p1, p2, k1].zip (us ++ ws)) := by
  match us, l1, ws, l2 with
  | [a, b], _, [c], _ => exact h ..
theorem bk51 {x : Str} {st : Stmt} {p1 p2 p3 p4 p5 k1 : Str} (h : ∀ (kV doc pm : Value) (an : Option Addr) (cdv ct a b c d e f : Value), bindArgs (PySem.W.fnOf x x (defArgs st) (defBody st) (defScope st) .none kV doc pm an cdv ct) ⟨[a, b, c, d, e], [(k1, f)]⟩ = pure ([p1, p2, p3, p4, p5, k1].zip [a, b, c, d, e, f]))
    (kV doc pm : Value) (an : Option Addr) (cdv ct : Value) (us ws : List Value) (l1 : us.length = 5) (l2 : ws.length = [k1].length) : bindArgs (PySem.W.fnOf x x (defArgs st) (defBody st) (defScope st) .none kV doc pm an cdv ct) ⟨us, [k1].zip ws⟩ = pure ([p1, p2, p3, p4, p5, k1].zip (us ++ ws)) := by
  match us, l1, ws, l2 with
  | [a, b, c, d, e], _, [f], _ => exact h ..
end
section
variable {ta tb tc : TE} {σ : L2.St} {H : Hp} {Q : VK} {sp : Sp} {E : XK} {n m : Nat} {gV : List V → List V → List V}
theorem r_callK21 (h : ta σ H fun x H1 => tb σ H1 fun y H2 => tc σ H2 fun z H3 => [x, y].length = n ∧ [z].length = m ∧ sp (gV [x, y] [z]) H3 Q E) : tCallN n m sp gV E (tCons ta (tCons tb tNil)) (tCons tc tNil) σ H Q := h
theorem r_callK51 {td te tf : TE} (h : ta σ H fun x1 H1 => tb σ H1 fun x2 H2 => tc σ H2 fun x3 H3 => td σ H3 fun x4 H4 => te σ H4 fun x5 H5 => tf σ H5 fun z H6 => [x1, x2, x3, x4, x5].length = n ∧ [z].length = m ∧ sp (gV [x1, x2, x3, x4, x5] [z]) H6 Q E) : tCallN n m sp gV E (tCons ta (tCons tb (tCons tc (tCons td (tCons te tNil))))) (tCons tf tNil) σ H Q := h
theorem r_callD2 {d : V} (h : ta σ H fun x H1 => tb σ H1 fun y H2 => sp [x, y, d] H2 Q E) : tCall sp [d] E (tCons ta (tCons tb tNil)) σ H Q := h
theorem r_callD3 {d : V} (h : ta σ H fun x H1 => tb σ H1 fun y H2 => tc σ H2 fun z H3 => sp [x, y, z, d] H3 Q E) : tCall sp [d] E (tCons ta (tCons tb (tCons tc tNil))) σ H Q := h
end
section
variable {ta tb : TE} {σ : L2.St} {H : Hp} {K : PySem.W.Frag} {α : Type} {R : Hp → V → α → Prop} {as bs : List α} {nm : Nat → Str} {n : Nat}
/-- a tuple and a tuple -/
theorem gv_catA (mR : TM R) (ha : Gv ta σ H fun H1 v => TupV R H1 v as) (hb : ∀ H1, Same H H1 → Gv tb σ H1 fun H1 v => TupV R H1 v bs) (hl : as.length + bs.length ≤ 100000) : Gv (tOp (rCatA K) ta tb) σ H fun H1 v => TupV R H1 v (as ++ bs) := fun Q q => by
  refine r_op (gv_use ha fun x H1 s1 ⟨p, xs, e1, hp, r1⟩ => gv_use (hb H1 s1) fun y H2 s2 ⟨p2, ys, e2, hp2, r2⟩ => ⟨p, p2, xs, ys, e1, e2, SqT.of (s2 _ _ hp), SqT.of hp2, ?_, fun e => ?_, fun _ e => ?_, fun _ _ l hl' => ?_⟩)
  · have l1 := r1.len
    have l2 := r2.len
    have : (100000 : Nat) ≤ sizeLine := by decide
    omega
  · subst e
    cases r1
    exact q _ _ (s1.trans s2) ⟨p2, ys, rfl, hp2, r2⟩
  · subst e
    cases r2
    exact q _ _ (s1.trans s2) ⟨p, xs, rfl, s2 _ _ hp, by rw [List.append_nil]; exact r1.imp fun _ _ k => mR.same s2 k⟩
  · exact q _ _ ((s1.trans s2).trans (same_new hl' _)) ⟨l, _, rfl, upd_same, (r1.imp fun _ _ k => mR.same (s2.trans (same_new hl' _)) k).app (r2.imp fun _ _ k => mR.same (same_new hl' _) k)⟩
/-- (x,) -/
theorem gv_one {a : α} (mR : TM R) (ha : Gv ta σ H fun H1 v => R H1 v a) : Gv (tTup (tCons ta tNil)) σ H fun H1 v => TupV R H1 v [a] :=
  gv_tup1 ha fun x H1 p s1 r hp => ⟨p, _, rfl, upd_same, .cons (mR.same (same_new hp _) r) .nil⟩
def dO (nm : Nat → Str) : Option Tr → PyData
  | none => .none
  | some t => dT nm t
theorem dp_otr {v : V} {o : Option Tr} (h : OTr nm H v o) : Dp K H v (dO nm o) := by
  cases o with
  | none => rw [show v = .non from h]; exact .non
  | some t => exact dp_tr h
theorem eqv_dO (N : Nm nm n) {a b : Option Tr} (ha : ∀ t, a = some t → Wf n t) (hb : ∀ t, b = some t → Wf n t) : PyData.eqv (dO nm a) (dO nm b) = decide (a = b) := by
  refine bool_iff ?_
  cases a with
  | none =>
    cases b with
    | none => simp [dO, PyData.eqv]
    | some u => cases u <;> simp [dO, dT, PyData.eqv]
  | some t =>
    cases b with
    | none => cases t <;> simp [dO, dT, PyData.eqv]
    | some u => simp only [dO, Option.some.injEq]; exact eqv_dT N (ha t rfl).lt (hb u rfl).lt
theorem sh_dO (N : Nm nm n) {a : Option Tr} (ha : ∀ t, a = some t → Wf n t) : SeqAt.shaped (dO nm a) = true := by
  cases a with
  | none => exact shaped_of (by simp [dO, PyData.canLay0]) (by simp [dO, PyData.depth])
  | some t => exact sh_dT N (ha t rfl).lt (Nat.le_trans ((ha t rfl).sz N.few) (by omega))
theorem gv_and {ta tb : TE} {b c : Bool} (h : Gv ta σ H fun _ v => v = .bl b) (k : ∀ H1, Same H H1 → Gv tb σ H1 fun _ v => v = .bl c) : Gv (tAndV ta tb) σ H fun _ v => v = .bl (b && c) := fun Q q =>
  r_andV (gv_use h fun v H1 s1 e => ⟨b, e, by
    cases b with
    | true => exact iteT (gv_use (k H1 s1) fun u H2 s2 e2 => q _ _ (s1.trans s2) e2)
    | false => exact iteF (q _ _ s1 rfl)⟩)
end
section
variable {te : TE} {σ : L2.St} {H : Hp} {K : PySem.W.Frag} {D : Ends} {i j : Nat}
/-- a, b = e -/
theorem r_asgP (h : te σ H fun v H1 => ∃ a xs, v = .ref a ∧ SqT K H1 a xs ∧ xs.length = 2 ∧ ∃ v1 r1, xs = v1 :: r1 ∧ ∃ v2 r2, r1 = v2 :: r2 ∧ r2 = [] ∧ D.nx ((σ.set i (some v1)).set j (some v2)) H1) : tAsg te (gTup K 2 (gCons (gName i) (gCons (gName j) gNil))) D σ H := h
end
theorem pe_never {X : Cx} {e : Expr} : PE X e (fun _ _ _ => False) := ⟨fun _ _ _ _ _ _ h => h.elim⟩
section
variable {ta tb : TE} {σ : L2.St} {H : Hp} {Q : VK}
theorem r_orV2 (h : ta σ H fun x H1 => ∃ c, x = .bl c ∧ if c = true then Q (.bl true) H1 else tb σ H1 Q) : tOrV ta tb σ H Q := h
theorem r_notV2 (h : ta σ H fun x H1 => ∃ c, x = .bl c ∧ Q (.bl (!c)) H1) : tNotV ta σ H Q := h
end
end Jw
end

section
set_option Elab.async false
set_option linter.all false
set_option maxRecDepth 100000
set_option maxHeartbeats 4000000
/-! for k, x in enumerate(a tuple). -/
namespace Jw
open PySem PySem.Spec PyProof.Rows L2 Jt JH
open PySem.AutoSeq1 (wpAny_loadPart')
/-- the two cells that enumerate(t) makes -/
abbrev enIt (t : Addr) : Obj := { cls := .type "tuple_iterator", data := .fields #[.ref t, .int 0 0] }
abbrev enOb (it : Addr) : Obj := { cls := .type "enumerate", data := .fields #[.none, .bool false, .ref it, rawInt 0, .none, .none] }
theorem meets_enum_tup (t : Addr) (items : Array Value) (n : Nat) (dct : Option Addr) (sl : Array (Option Value)) :
    Meets (Builtin.«enumerate.__new__» ⟨[.type "enumerate", .ref t], []⟩) (fun _ R s => s.heap.get? t = some { cls := .type "tuple", dict := dct, data := .seq items n, slots := sl } ∧
      R (.ok (.ret (.ref (s.heap.push (enIt t)).objs.size))) { s with heap := (s.heap.push (enIt t)).push (enOb s.heap.objs.size) }) :=
  .of_wp fun prog w A R s ⟨at_, fin⟩ => by
    obtain ⟨h0, g0, d0, k0, o0⟩ := s
    have hsub := sub_enumerate
    have tu : Heap.IsTuple (Shared.heap ⟨h0, g0, d0, k0, o0⟩) t items := ⟨_, at_, rfl, n, rfl⟩
    wp_walk using wpAny_loadPart' at_
    refine wpAny_stack_any fun _ => wpAny_pure ?_
    split
    · rename_i c _ _ _ _ _
      cases (c == Value.type "enumerate") <;> (wp_walk using wpAny_loadPart' at_, wpAny_pyIter_tuple tu; exact ⟨_, rfl, fin⟩)
    · wp_walk using wpAny_loadPart' at_, wpAny_pyIter_tuple tu
      exact ⟨_, rfl, fin⟩
theorem call_enum_tup {prog : Program} {w : World} {A : Around} {E : Value → Shared → Prop} {s : Shared} {l : Addr} {items : Array Value} {Q : Value → Shared → Prop} (tu : IsTup s.heap l items)
    (q : ∀ h1, IsEnum h1 (s.heap.objs.size + 1) s.heap.objs.size 0 .none → h1.IsTupleIter s.heap.objs.size l 0 → (∀ b o, s.heap.get? b = some o → h1.get? b = some o) → Q (.ref (s.heap.objs.size + 1)) { s with heap := h1 }) :
    wpAny (model prog w) A (call (.type "enumerate") [.ref l]) Q E s := by
  obtain ⟨⟨c, dc, dt, sl⟩, at_, ec, n, ed⟩ := tu
  cases (show c = .type "tuple" from ec)
  cases (show dt = .seq items n from ed)
  have size1 : (s.heap.push (enIt l)).objs.size = s.heap.objs.size + 1 := Heap.size_push ..
  have en : ((s.heap.push (enIt l)).push (enOb s.heap.objs.size)).get? (s.heap.objs.size + 1) = some (enOb s.heap.objs.size) := by
    rw [← size1]; exact Heap.get?_push_size _ rfl
  refine callType_new F.called_enumerate (by decide) (F.typeCall_enumerate_1 _) (F.newCall_enumerate_1 _) (fun ob => F.args_object_init_2 ob _) F.entry_enumerate_new (meets_enum_tup l items n dc sl) ⟨at_, ?_⟩
  show _ ∧ _
  rw [size1]
  exact ⟨⟨_, en, rfl⟩, q _ en ⟨enIt l, Heap.get?_push_of_some _ (Heap.get?_push_size _ rfl), rfl, rfl⟩ fun b o e => Heap.get?_push_of_some _ (Heap.get?_push_of_some _ e)⟩
/-- the tuple at a, each item in a new pair -/
def ItT (K : PySem.W.Frag) (a : Addr) : It :=
  ⟨fun i H => ∃ (xs : List V) (x : V), SqT K H a xs ∧ xs[i]? = some x, fun i H v H' => ∃ T x, v = .ref T ∧ H T = none ∧ H' = upd H T (.tup [.int (i : Nat), x]) ∧ ∀ xs, SqT K H a xs → xs[i]? = some x, fun i H => ∃ xs : List V, SqT K H a xs ∧ xs.length = i⟩
theorem two_of {b e it : Addr} (h : b ∈ [e, it]) : b = e ∨ b = it := by simpa using h
theorem turn_enumT {P : Program} {w : World} {K : PySem.W.Frag} {elts : List Expr} {kk : Nat} {tpos : Pos} (a e it : Addr) :
    Turn P w K (.Tuple elts kk tpos) (ItT K a) [e, it] e (fun i h => (∃ old, IsEnum h e it ((i : Nat) : Int) old) ∧ h.IsTupleIter it a i ∧ e ≠ it ∧ a ≠ it ∧ a ≠ e) where
  mem := by simp
  obj := fun i h ⟨⟨old, en⟩, ⟨o, at_, _, dt⟩, _⟩ b hb => by
    rcases two_of hb with rfl | rfl
    · exact ⟨_, en, fun v z => nomatch z⟩
    · exact ⟨o, at_, fun v z => by rw [dt] at z; cases z⟩
  keep := fun i h h1 ⟨⟨old, en⟩, ti, ne⟩ k => ⟨⟨old, k e (.head _) _ en⟩, ti.at fun o z => k it (by simp) o z, ne⟩
  item := by
    rintro X rfl rfl rfl hc i pins s σ H E I hf ⟨⟨old, en⟩, ti, ne, nai, nae⟩ ⟨xs, x, sq, at_x⟩
    obtain ⟨its, rv, tu, _⟩ := I.tuple sq
    obtain ⟨u, at_u, rel⟩ := rv.get at_x
    have small : ∀ b ∈ [e, it], b < s.heap.objs.size := fun b hb => by
      rcases two_of hb with rfl | rfl
      · exact Heap.lt_size en
      · exact Heap.lt_size ti.choose_spec.1
    refine wpAny_pyNext_enum_itemD (Draws.tuple (A := X.A.in1) (I.ok.hd hc) it a nai its.toArray) en ⟨ti, tu⟩ (by simpa using (List.getElem?_eq_some_iff.mp at_u).1) ne (by simp [ne, Ne.symm nae]) fun v h1 tk ev out st1 pair _ kp => ?_
    obtain rfl : u = v := Option.some.inj (at_u.symm.trans (by simpa using ev))
    refine ⟨_, rfl, wpAny_letOwnedTupleGo_enum (s := { s with heap := h1, toks := tk + 1 }) out fun h2 en2 sb => ?_⟩
    have pair2 : h2.get? s.heap.objs.size = some { cls := .type "tuple", data := .seq #[.int i tk, u] } := (sb.2 _ (Nat.ne_of_gt (small e (.head _)))).trans pair
    have kp2 : ∀ b o, b ∉ [e, it] → s.heap.get? b = some o → h2.get? b = some o := fun b o nb z => by
      simp only [List.mem_cons, List.not_mem_nil, or_false, not_or] at nb
      exact (sb.2 b nb.1).trans (kp b o nb.1 nb.2 z)
    refine ⟨.ref s.heap.objs.size, _, I.turnedNew (ob := .tup [.int (i : Nat), x]) kp2 hf (Nat.le_refl _) ⟨by show 2 ≤ sizeLine; decide, [.int i tk, u], .cons ⟨_, rfl⟩ (.cons rel .nil), ⟨_, pair2, rfl, _, rfl⟩⟩, rfl,
      ⟨_, x, rfl, I.hok.fresh (Nat.le_refl _), rfl, fun ys sy => by rw [I.tuple_inj sy sq]; exact at_x⟩, ⟨⟨u, ?_⟩, st1.1.at fun o z => (sb.2 it (Ne.symm ne)).trans z, ne, nai, nae⟩, fun b hb => ?_⟩
    · rw [Int.natCast_succ]; exact en2
    · rw [upd_ne (Nat.ne_of_lt (small b hb))]; exact (hf b hb).1
  done := by
    rintro X rfl rfl rfl hc i pins s σ H E I hf ⟨⟨old, en⟩, ti, _, nai, _⟩ ⟨xs, sq, rfl⟩
    obtain ⟨its, rv, tu, _⟩ := I.tuple sq
    have hz : xs.length = its.toArray.size := by rw [rv.length, List.size_toArray]
    have fp := hf it (by simp)
    exact wpAny_pyNext_enum_endD (Draws.tuple (A := X.A.in1) (I.ok.hd hc) it a nai its.toArray) en ⟨hz ▸ ti, tu⟩ fun h1 eb => ⟨rfl, I.turned (t' := s.toks) (fun b o hb z => eb b o hb z) fp.1 fp.2.1 fp.2.2.2.1 fp.2.2.2.2.1 fp.2.2.2.2.2⟩
  self := fun A i s Q E st q => wpAny_pyIter_enum st.1.choose_spec q
def iEnumT (K : PySem.W.Frag) (ta : TA) : TI := fun σ H R => ta σ H fun vs H1 => ∃ a xs, vs = [.ref a] ∧ SqT K H1 a xs ∧ R (ItT K a) H1
theorem pi_enumT {X : Cx} (K : PySem.W.Frag) {e : Expr} {ta : TA} {p pos tpos : Pos} {elts : List Expr} {kk : Nat} (hg : Gl X "enumerate") (hm : X.mg "enumerate" = none) (ha : PA X [e] ta) (hs : starEach [e] X.env = [(false, eval e X.env)] := by rfl) (hK : X.K = K := by rfl) :
    PI X (.Tuple elts kk tpos) (.Call (.Name "enumerate" p) [e] [] pos) (iEnumT K ta) := by
  subst hK
  constructor
  intro pins s σ H R I h
  refine Call_ (ld_blt I hg hm boot_enumerate (PyProof.Rows.callWith_type1 (thn (ha.run pos pins s σ H _ I h) fun us s1 ⟨vs, H1, I1, r1, a, xs, ev, sq, q⟩ => ?_) hs rfl))
  subst ev
  rw [Vals.ref1 r1]
  obtain ⟨its, _, tu, _⟩ := I1.tuple sq
  have la : a < s1.heap.objs.size := Heap.lt_size tu.choose_spec.1
  refine call_enum_tup tu fun h1 en ti kp => wpAny_pyIter_enum en ⟨s1.heap.objs.size + 1, _, _, _, H1, rfl, I1.kept (t' := s1.toks) kp, turn_enumT a (s1.heap.objs.size + 1) s1.heap.objs.size, ⟨⟨.none, en⟩, ti, Nat.succ_ne_self _, Nat.ne_of_lt la, Nat.ne_of_lt (Nat.lt_succ_of_lt la)⟩, fun b hb => ?_, q⟩
  have nb : s1.heap.objs.size ≤ b := by rcases two_of hb with rfl | rfl <;> simp
  exact I1.fpOk nb (I1.hok.fresh nb)
theorem walk_enumT {K : PySem.W.Frag} {a : Addr} {xs : List V} : Walk (ItT K a) xs.length (fun H => SqT K H a xs) (YPair (fun i => some (.int (i : Nat))) (fun i => xs[i]?)) :=
  ⟨fun i _ hi sq => ⟨xs, xs[i], sq, List.getElem?_eq_getElem hi⟩, fun _ sq => ⟨xs, sq, rfl⟩, fun i H v H1 _ sq ⟨T, x, c1, c2, c3, c4⟩ => ⟨T, .int (i : Nat), x, c1, c2, c3, rfl, c4 xs sq⟩⟩
end Jw
end

section
set_option Elab.async false
set_option linter.all false
set_option maxRecDepth 100000
set_option maxHeartbeats 4000000
/-! Slices, pairs, append. -/
namespace Jw
open PySem PySem.Spec PyProof.Rows L2 Jt JH
section
variable {te ti ta tb : TE} {σ : L2.St} {H : Hp} {K : PySem.W.Frag} {α β : Type} {R : Hp → V → α → Prop} {S : Hp → V → β → Prop} {as : List α} {D : Ends}
theorem P2.take {γ δ : Type} {T : γ → δ → Prop} {xs : List γ} {ys : List δ} (h : P2 T xs ys) : ∀ k, P2 T (xs.take k) (ys.take k) := by
  induction h with
  | nil => intro k; simp; exact .nil
  | cons r _ ih =>
    intro k
    cases k with
    | zero => simp; exact .nil
    | succ k => exact .cons r (ih k)
theorem P2.drop {γ δ : Type} {T : γ → δ → Prop} {xs : List γ} {ys : List δ} (h : P2 T xs ys) : ∀ k, P2 T (xs.drop k) (ys.drop k) := by
  induction h with
  | nil => intro k; simp; exact .nil
  | cons r h' ih =>
    intro k
    cases k with
    | zero => exact .cons r h'
    | succ k => exact ih k
theorem cut_take (xs : List V) (k : Nat) : cutV xs none (some (k : Int)) = xs.take k := by
  unfold cutV
  rw [HT.sIx_none, HT.sIx_nat, List.drop_zero, Nat.sub_zero]
  rcases Nat.le_total k xs.length with h | h
  · rw [Nat.min_eq_left h]
  · rw [Nat.min_eq_right h, List.take_of_length_le (Nat.le_refl _), List.take_of_length_le h]
theorem cut_drop (xs : List V) (k : Nat) : cutV xs (some (k : Int)) none = xs.drop k := by
  unfold cutV
  rw [HT.sIx_none, HT.sIx_nat]
  rcases Nat.le_total k xs.length with h | h
  · rw [Nat.min_eq_left h, List.take_of_length_le (by rw [List.length_drop]; omega)]
  · rw [Nat.min_eq_right h, Nat.sub_self, List.take_zero, List.drop_eq_nil_of_le h]
theorem r_slNS {r : V → Option Int → Option Int → Hp → VK → Prop} {Q : VK} (h : te σ H fun x H1 => ti σ H1 fun y H2 => ∃ i, y = .int i ∧ r x none (some i) H2 Q) : tSl r te tNoPart (tPart ti) σ H Q := h
theorem r_slSN {r : V → Option Int → Option Int → Hp → VK → Prop} {Q : VK} (h : te σ H fun x H1 => ti σ H1 fun y H2 => ∃ i, y = .int i ∧ r x (some i) none H2 Q) : tSl r te (tPart ti) tNoPart σ H Q := h
/-- a tuple's [:k], [k:] -/
theorem gv_take {k : Nat} (mR : TM R) (h : Gv te σ H fun H1 v => TupV R H1 v as) (hi : ∀ H1, Same H H1 → Gv ti σ H1 fun _ v => v = .int (k : Nat)) (hk : k < as.length) : Gv (tSl (rSlT K) te tNoPart (tPart ti)) σ H fun H1 v => TupV R H1 v (as.take k) := fun Q q =>
  r_slNS (gv_use h fun v H1 s1 ⟨p, xs, e, hp, r⟩ => gv_use (hi H1 s1) fun x H2 s2 ex => ⟨k, ex, p, xs, e, SqT.of (s2 _ _ hp), by
    have := r.len
    rw [HT.sIx_none, HT.sIx_nat]; omega, fun l hl => q _ _ ((s1.trans s2).trans (same_new hl _)) ⟨l, xs.take k, rfl, by rw [cut_take]; exact upd_same, (r.take k).imp fun _ _ z => mR.same (s2.trans (same_new hl _)) z⟩⟩)
theorem gv_drop {k : Nat} (mR : TM R) (h : Gv te σ H fun H1 v => TupV R H1 v as) (hi : ∀ H1, Same H H1 → Gv ti σ H1 fun _ v => v = .int (k : Nat)) (hk : 0 < k) (hl : as ≠ []) : Gv (tSl (rSlT K) te (tPart ti) tNoPart) σ H fun H1 v => TupV R H1 v (as.drop k) := fun Q q =>
  r_slSN (gv_use h fun v H1 s1 ⟨p, xs, e, hp, r⟩ => gv_use (hi H1 s1) fun x H2 s2 ex => ⟨k, ex, p, xs, e, SqT.of (s2 _ _ hp), by
    have h1 := r.len
    have h2 := List.length_pos_iff.mpr hl
    rw [HT.sIx_none, HT.sIx_nat]; omega, fun l hl => q _ _ ((s1.trans s2).trans (same_new hl _)) ⟨l, xs.drop k, rfl, by rw [cut_drop]; exact upd_same, (r.drop k).imp fun _ _ z => mR.same (s2.trans (same_new hl _)) z⟩⟩)
/-- a list's [k:], [:k] -/
theorem gv_dropL {k : Nat} (mR : TM R) (h : Gv te σ H fun H1 v => LstV R H1 v as) (hi : ∀ H1, Same H H1 → Gv ti σ H1 fun _ v => v = .int (k : Nat)) : Gv (tSl (rSlL K) te (tPart ti) tNoPart) σ H fun H1 v => LstN R H H1 v (as.drop k) := fun Q q =>
  r_slSN (gv_use h fun v H1 s1 ⟨p, xs, e, hp, r⟩ => gv_use (hi H1 s1) fun x H2 s2 ex => ⟨k, ex, p, xs, e, SqL.of (s2 _ _ hp), fun l hl => q _ _ ((s1.trans s2).trans (same_new hl _)) ⟨l, xs.drop k, rfl, (s1.trans s2).free hl, by rw [cut_drop]; exact upd_same, (r.drop k).imp fun _ _ z => mR.same (s2.trans (same_new hl _)) z⟩⟩)
theorem gv_takeL {k : Nat} (mR : TM R) (h : Gv te σ H fun H1 v => LstV R H1 v as) (hi : ∀ H1, Same H H1 → Gv ti σ H1 fun _ v => v = .int (k : Nat)) : Gv (tSl (rSlL K) te tNoPart (tPart ti)) σ H fun H1 v => LstN R H H1 v (as.take k) := fun Q q =>
  r_slNS (gv_use h fun v H1 s1 ⟨p, xs, e, hp, r⟩ => gv_use (hi H1 s1) fun x H2 s2 ex => ⟨k, ex, p, xs, e, SqL.of (s2 _ _ hp), fun l hl => q _ _ ((s1.trans s2).trans (same_new hl _)) ⟨l, xs.take k, rfl, (s1.trans s2).free hl, by rw [cut_take]; exact upd_same, (r.take k).imp fun _ _ z => mR.same (s2.trans (same_new hl _)) z⟩⟩)
/-- (a, b) -/
theorem gv_pair {a : α} {b : β} (mR : TM R) (mS : TM S) (ha : Gv ta σ H fun H1 v => R H1 v a) (hb : ∀ H1, Same H H1 → Gv tb σ H1 fun H1 v => S H1 v b) : Gv (tTup (tCons ta (tCons tb tNil))) σ H fun H1 v => PrV R S H1 v (a, b) := fun Q q =>
  r_tup (r_cons (gv_use ha fun x H1 s1 r1 => r_cons (gv_use (hb H1 s1) fun y H2 s2 r2 => r_nil ⟨by show 2 ≤ sizeLine; decide, fun p hp => q _ _ ((s1.trans s2).trans (same_new hp _)) ⟨p, x, y, rfl, upd_same, mR.same (s2.trans (same_new hp _)) r1, mS.same (same_new hp _) r2⟩⟩)))
/-- xs.append(e) -/
theorem r_append {Ry : Hp → V → Prop} {i : Nat} {p : Addr} {xs : List V} (hx : σ[i]? = some (some (.ref p))) (hp : H p = some (.lst xs)) (hl : xs.length < sizeLine) (h : Gv te σ H Ry) (k : ∀ y H1, Same H H1 → Ry H1 y → D.nx σ (upd H1 p (.lst (xs ++ [y])))) : tDrop (tBM K "list" rAppend (tVar i) (tCons te tNil)) D σ H :=
  ⟨.ref p, hx, .inl ⟨rfl, _, SqL.of hp⟩, h _ fun y H1 s1 r => ⟨p, xs, y, rfl, rfl, s1 _ _ hp, hl, k y H1 s1 r⟩⟩
theorem gv_pairG {Ra Rb Rr : Hp → V → Prop} (ha : Gv ta σ H Ra) (hb : ∀ H1, Same H H1 → Gv tb σ H1 Rb) (k : ∀ x y H1 H2 p, Same H H1 → Ra H1 x → Same H1 H2 → Rb H2 y → H2 p = none → Rr (upd H2 p (.tup [x, y])) (.ref p)) : Gv (tTup (tCons ta (tCons tb tNil))) σ H Rr := fun Q q =>
  r_tup (r_cons (gv_use ha fun x H1 s1 r1 => r_cons (gv_use (hb H1 s1) fun y H2 s2 r2 => r_nil ⟨by show 2 ≤ sizeLine; decide, fun p hp => q _ _ ((s1.trans s2).trans (same_new hp _)) (k x y H1 H2 p s1 r1 s2 r2 hp)⟩)))
def ForR (J : It) (g : TG) (tb : TS) (D : Ends) (σ : L2.St) (H1 : Hp) : Prop := ∃ W : Nat → Nat → L2.St → Hp → Prop, (∃ m, W 0 m σ H1) ∧ ∀ i m σ H, W i m σ H →
  (J.stop i H ∧ D.nx σ H) ∨ (J.go i H ∧ ∃ N : L2.St → Hp → Prop, (∀ σ' H', N σ' H' → ∃ m', m' < m ∧ W (i + 1) m' σ' H') ∧ ∀ x H', J.yld i H x H' → g x σ H' fun σ2 H2 => tb { D with nx := N, ct := N, bk := D.nx } σ2 H2)
theorem r_forL {g : TG} {tb : TS} (h : te σ H fun x H1 => ∃ a, x = .ref a ∧ (∃ xs, SqL K H1 a xs) ∧ ForR (Itl K a) g tb D σ H1) : tFor (iList K te) g tb D σ H := h
theorem r_forT {g : TG} {tb : TS} (h : te σ H fun x H1 => ∃ a, x = .ref a ∧ (∃ xs, SqT K H1 a xs) ∧ ForR (Itt K a) g tb D σ H1) : tFor (iTup K te) g tb D σ H := h
end
end Jw
end

section
set_option Elab.async false
set_option linter.all false
set_option maxRecDepth 100000
set_option maxHeartbeats 4000000
/-! tree_to, nodes_of, head_of, way_of, are_apart, share. -/
namespace Jw
open PySem PySem.Spec PyProof.Rows L2 Jt JH
section
variable {P : Program} {w : World} {K : PySem.W.Frag} {mg : Str → Option Value} {base : Heap} {f : Addr} {fd : FuncData} {nm : Nat → Str} {n : Nat}
def spTreeTo (nm : Nat → Str) (n : Nat) : Sp := Pur (ι := Tr × List Nat) (fun i vs H => ∃ v u, vs = [v, u] ∧ TrV nm H v i.1 ∧ LotV nm H u i.2 ∧ Wf n i.1 ∧ (∀ x ∈ i.2, x < n)) (fun i _ H r => OTr nm H r (res (el i.2) i.1))
theorem sc_tree_to : FnScope ["tree", "names"] ["tree", "names"] (defScope s_tree_to) := ⟨rfl, rfl, rfl, by decide +kernel, rfl, by decide +kernel, by decide +kernel⟩
theorem ok_tree_to (F : FnD K "tree_to" s_tree_to f fd) (B : Bi mg) (N : Nm nm n) (c_part_to : Cal P w K mg base 14 "part_to" ["tree", "names"] (spPartTo nm n 9)) : FnOk P w K mg base CX0 15 f fd ["tree", "names"] (spTreeTo nm n) := by
  refine F.ok sc_tree_to (fun vs H Q E h => ?_) (fun cdv A outer s H vs Q E hr h => ?_)
  · obtain ⟨t, ⟨v, u, rfl, _⟩, _⟩ := h; rfl
  · obtain ⟨⟨t, l⟩, ⟨v, u, rfl, hv, hl, hw, hln⟩, q⟩ := h
    refine ⟨_, PSs.nox (pss_one (ps_ret (pe_cal c_part_to (hr.mono (by first | decide | omega)) (pa_cons (pv 0) (pa_cons (pv 1) pa_nil))))), ?_⟩
    exact r_ret (gv_use (gv_call2 (gv_var rfl hv) (fun H1 s1 => gv_var (R := fun H r => LotV nm H r l) rfl (tm_lot.same s1 hl)) fun x y H1 H2 s1 rx s2 ry => ⟨(t, l), ⟨x, y, rfl, tm_tr.same s2 rx, ry, hw, hln, hw.sz N.few⟩, fun r H3 s3 z => z⟩) q)
/-! ### nodes_of -/
def spNodesOf (nm : Nat → Str) (n : Nat) : Sp := Pur (ι := Tr) (fun t vs H => ∃ v, vs = [v] ∧ TrV nm H v t ∧ Wf n t) (fun t H0 H r => ∃ L, Nodes t L ∧ LstN (LotV nm) H0 H r L)
theorem sc_nodes_of : FnScope ["tree", "name"] ["tree"] (defScope s_nodes_of) := ⟨rfl, rfl, rfl, by decide +kernel, rfl, by decide +kernel, by decide +kernel⟩
theorem ok_nodes_of (F : FnD K "nodes_of" s_nodes_of f fd) (B : Bi mg) (N : Nm nm n) (c_lots_of : Cal P w K mg base 22 "lots_of" ["tree"] (spLotsOf nm n)) (c_names_in : Cal P w K mg base 11 "names_in" ["tree"] (spNamesIn nm n)) : FnOk P w K mg base CX0 23 f fd ["tree"] (spNodesOf nm n) := by
  refine F.ok sc_nodes_of (fun vs H Q E h => ?_) (fun cdv A outer s H vs Q E hr h => ?_)
  · obtain ⟨t, ⟨v, rfl, _⟩, _⟩ := h; rfl
  · obtain ⟨t, ⟨v, rfl, hv, hw⟩, q⟩ := h
    refine ⟨_, PSs.nox (pss_one (ps_ret (pe_op op_cat (pe_cal c_lots_of (hr.mono (by first | decide | omega)) (pa_cons (pv 0) pa_nil)) (pe_lc (own := [("name", 1)]) rfl sc_nodes_of.nd (piT K (pe_cal c_names_in (hr.mono (by first | decide | omega)) (pa_cons (pv 0) pa_nil))) (blkOk_by (N := ["tree", "name"]) (sc := defScope s_nodes_of) (by decide +kernel)) (fun _ _ _ _ _ => (pg_name (i := 1) sc_nodes_of.nd rfl (by first | exact Or.inl rfl | exact Or.inr rfl))) (fun _ _ _ _ _ => pts_nil) (fun _ _ _ _ _ => (pe_tup (pa_cons (pv 1) pa_nil))))))), ?_⟩
    have hls := hw.lenS
    have hfew := N.few
    have hsl := sizeLine_eq
    refine r_ret (r_op (gv_use (gv_call1 (R := fun H1 r => ∃ L, L.Perm ((forks t).map nmS) ∧ LstN (LotV nm) H H1 r L) (gv_var rfl hv) fun x H1 s1 rx => ⟨t, ⟨x, rfl, rx, hw⟩, fun r H2 s2 ⟨L, pm, z⟩ => ⟨L, pm, z.back s1⟩⟩) fun r H1 s1 ⟨L, pm, p1, xs, e1, f1, hp1, r1⟩ => ?_))
    refine gv_use (gv_lcT0 (fun x => [x]) (fun as => as = nmS t) (tm_nm (nm := nm)) (tm_lot (nm := nm)) (gv_call1 (gv_var rfl (tm_tr.same s1 hv)) fun x H2 s2 rx => ⟨t, ⟨x, rfl, rx, hw⟩, fun r H3 s3 z => ⟨_, rfl, (lot_tup.mp z).sq⟩⟩) (fun _ e => by rw [e]; omega) (fun _ => rfl) ?_) fun r2 H2 s2 ⟨_, e, p2, ys, e2, f2, hp2, rr2⟩ => ?_
    · rintro _ x c H2 rfl hc s2 rx
      exact gv_tup1 (gv_var (R := fun H r => NmV nm H r c) rfl rx) fun y H3 p s3 ry hp => ⟨p, rfl, by rw [upd_same, show y = sv nm c from ry]; rfl⟩
    · subst e
      have l1 := r1.len
      have l2 := rr2.len
      have l3 := pm.length_eq
      have l4 := len_forks t
      have l5 := hw.len
      rw [List.length_map] at l2 l3
      refine ⟨p1, p2, xs, ys, e1, e2, s2 _ _ hp1, hp2, by omega, fun p hp => q _ _ ((s1.trans s2).trans (same_new hp _)) ⟨_, nodes_of_perm hw.ok pm, p, _, rfl, (s1.trans s2).free hp, upd_same, ?_⟩⟩
      exact (r1.imp fun _ _ k => tm_lot.same (s2.trans (same_new hp _)) k).app (rr2.imp fun _ _ k => tm_lot.same (same_new hp _) k)
/-! ### head_of -/
def spHeadOf (nm : Nat → Str) (n : Nat) : Sp := Pur (ι := Tr × List (List Nat) × List Nat) (fun i vs H => ∃ v u, vs = [v, u] ∧ LstV (LotV nm) H v i.2.1 ∧ LotV nm H u i.2.2 ∧ Wf n i.1 ∧ Nodes i.1 i.2.1 ∧ i.2.2 ≠ [] ∧ i.2.2.length ≤ 100 ∧ ∀ x ∈ i.2.2, x ∈ i.1.nm) (fun i _ H r => LotV nm H r (nmS (hd (el i.2.2) i.1)))
theorem sc_head_of : FnScope ["nodes", "lot", "node"] ["nodes", "lot"] (defScope s_head_of) := ⟨rfl, rfl, rfl, by decide +kernel, rfl, by decide +kernel, by decide +kernel⟩
theorem ok_head_of (F : FnD K "head_of" s_head_of f fd) (B : Bi mg) (N : Nm nm n) (c_has_all : Cal P w K mg base 1 "has_all" ["lot", "names"] (spHasAll nm n)) : FnOk P w K mg base CX0 2 f fd ["nodes", "lot"] (spHeadOf nm n) := by
  refine F.ok sc_head_of (fun vs H Q E h => ?_) (fun cdv A outer s H vs Q E hr h => ?_)
  · obtain ⟨t, ⟨v, u, rfl, _⟩, _⟩ := h; rfl
  · obtain ⟨⟨t, L, l⟩, ⟨v, u, rfl, hv, hu', hw, hN, hne, hlen, hsub⟩, q⟩ := h
    simp only at hv hu' hw hN hne hlen hsub
    refine ⟨_, PSs.nox (pss_one (ps_ret (pe_keyLen (minLenQ K rfl) (by rfl) B.min boot_min (by rfl) B.len (pa_cons (pe_lc (own := [("node", 2)]) rfl sc_head_of.nd (piL K (pv 0)) (blkOk_by (N := ["nodes", "lot", "node"]) (sc := defScope s_head_of) (by decide +kernel)) (fun _ _ _ _ _ => (pg_name (i := 2) sc_head_of.nd rfl (by first | exact Or.inl rfl | exact Or.inr rfl))) (fun _ _ _ _ _ => pts_one (pt_val (pe_cal c_has_all (hr.mono (by first | decide | omega)) (pa_cons (pv 2) (pa_cons (pv 1) pa_nil))))) (fun _ _ _ _ _ => (pv 2))) pa_nil)))), ?_⟩
    have hLl := hN.len
    have h9 := hw.sz N.few
    refine r_ret (r_b1 (gv_use (gv_lcL (fun Nd => l.all fun x => decide (x ∈ Nd)) id (fun as => as = L) (tm_lot (nm := nm)) (tm_lot (nm := nm)) (gv_var rfl ⟨_, rfl, hv.sq⟩) (fun _ e => by rw [e]; omega) (fun _ => rfl) ?_ ?_) fun r H1 s1 ⟨as, e, p, xs, er, _, hp, rr⟩ => ?_))
    · rintro _ x c H2 rfl hc s2 rx
      refine gt_gv fun Q' q' => r_call2 (r_var rfl (r_var rfl ⟨x, u, c, l, rfl, rx, tm_lot.same s2 hu', hN.lt hw c hc, fun x hx => hw.lt x (hsub x hx), ?_, hlen, fun H3 s3 => q' _ _ s3 rfl⟩))
      have := hN.few hw c hc
      have := N.few
      omega
    · rintro _ x c H2 rfl hc s2 rx _
      exact gv_var rfl rx
    · rw [e, List.map_id] at rr
      have hmem := head_some hN hsub
      refine ⟨p, xs, _, by rw [er], SqL.of hp, tlens rr, ?_, fun i x m hx hm hmin => ?_⟩
      · rintro rfl
        have e1 := rr.len
        have e2 := List.length_pos_of_mem hmem
        simp only [List.length_nil] at e1
        omega
      · obtain ⟨N1, hN1, rN⟩ := rr.get hx
        have em : m = N1.length := by
          rw [List.getElem?_map, hN1] at hm
          exact (Option.some.inj hm).symm
        have : N1 = nmS (hd (el l) t) := head_min hw.ok hN hsub hne (List.mem_of_getElem? hN1) fun m' hm' => by
          rw [← em]
          exact hmin _ (List.mem_map.mpr ⟨m', hm', rfl⟩)
        subst this
        exact q _ _ s1 rN
/-! ### way_of -/
def spWayOf (nm : Nat → Str) (n : Nat) : Sp := Pur (ι := Tr × List (List Nat) × List Nat × Bool) (fun i vs H => ∃ v u, vs = [v, u, .bl i.2.2.2] ∧ LstV (LotV nm) H v i.2.1 ∧ LotV nm H u i.2.2.1 ∧ Wf n i.1 ∧ Nodes i.1 i.2.1 ∧ i.2.2.1.length ≤ 100 ∧ (∀ x ∈ i.2.2.1, x < n) ∧ (i.2.2.2 = false → i.2.2.1 ≠ [] ∧ ∀ x ∈ i.2.2.1, x ∈ i.1.nm))
  (fun i H0 H r => LstN (LotV nm) H0 H r (wayF i.1 i.2.2.1 i.2.2.2 i.2.1))
def nsc_way_of : Scope := { kind := .function, names := [(".0", .local), ("node", .cell), ("any", .globalImplicit), ("lot", .cell)], isGenerator := false, isCoroutine := false }
theorem sc_way_of : FnScope ["nodes", "lot", "is_top", "met", "node", "name", "many"] ["nodes", "lot", "is_top"] (defScope s_way_of) := ⟨rfl, rfl, rfl, by decide +kernel, rfl, by decide +kernel, by decide +kernel⟩
theorem ok_way_of (F : FnKD K "way_of" s_way_of [("is_top", .bl false)] f fd) (B : Bi mg) (N : Nm nm n) (c_head_of : Cal P w K mg base 2 "head_of" ["nodes", "lot"] (spHeadOf nm n)) : FnOk P w K mg base CX0 3 f fd ["nodes", "lot", "is_top"] (spWayOf nm n) := by
  refine F.ok sc_way_of (fun vs H Q E h => ?_) (fun cdv A outer s H vs Q E hr h => ?_)
  · obtain ⟨t, ⟨v, u, rfl, _⟩, _⟩ := h; rfl
  · obtain ⟨⟨t, L, l, b⟩, ⟨v, u, rfl, hv, hu', hw, hN, hlen, hln, hsub⟩, q⟩ := h
    simp only at hv hu' hw hN hlen hln hsub
    refine ⟨_, PSs.nox (pss_cons (ps_setLc (own := [("node", 4)]) (i := 3) rfl sc_way_of.nd rfl rfl (sw_true rfl rfl rfl (by decide +kernel)) (piL K (pv 0)) (blkOk_by (N := ["nodes", "lot", "is_top", "met", "node", "name", "many"]) (sc := defScope s_way_of) (by decide +kernel)) (fun _ _ _ _ _ => (pg_name (i := 4) sc_way_of.nd rfl (by first | exact Or.inl rfl | exact Or.inr rfl))) (fun _ _ _ _ _ => pts_one (pt_val (pe_callB (anyQ K) (by rfl) B.any boot_any (pa_cons (pe_lc (own := [("name", 5)]) rfl sc_way_of.nd (piT K (pv 1)) (blkOk_by (N := ["nodes", "lot", "is_top", "met", "node", "name", "many"]) (sc := nsc_way_of) (by decide +kernel)) (fun _ _ _ _ _ => (pg_name (i := 5) sc_way_of.nd rfl (by first | exact Or.inl rfl | exact Or.inr rfl))) (fun _ _ _ _ _ => pts_nil) (fun _ _ _ _ _ => (pe_cmpR (inS K) (pv 5) (pv 4) (by rfl)))) pa_nil)))) (fun _ _ _ _ _ => (pv 4)))
      (pss_cons (ps_if (pt_val (pv 2)) (pss_one (ps_ret (pv 3))) pss_nil)
      (pss_cons (ps_set (i := 6) sc_way_of.nd rfl (by first | exact Or.inl rfl | exact Or.inr rfl) (pe_callB (lenQ K) (by rfl) B.len boot_len (pa_cons (pe_cal c_head_of (hr.mono (by first | decide | omega)) (pa_cons (pv 0) (pa_cons (pv 1) pa_nil))) pa_nil)))
      (pss_one (ps_ret (pe_lc (own := [("node", 4)]) rfl sc_way_of.nd (piL K (pv 3)) (blkOk_by (N := ["nodes", "lot", "is_top", "met", "node", "name", "many"]) (sc := defScope s_way_of) (by decide +kernel)) (fun _ _ _ _ _ => (pg_name (i := 4) sc_way_of.nd rfl (by first | exact Or.inl rfl | exact Or.inr rfl))) (fun _ _ _ _ _ => pts_one (pt_cmpR op_le (pe_callB (lenQ K) (by rfl) B.len boot_len (pa_cons (pv 4) pa_nil)) (pv 6) (by rfl))) (fun _ _ _ _ _ => (pv 4)))))))), ?_⟩
    have hLl := hN.len
    have h9 := hw.sz N.few
    have hfw := N.few
    refine r_seq (r_asg (gv_use (gv_lcL (fun Nd => l.any fun x => decide (x ∈ Nd)) id (fun as => as = L) (tm_lot (nm := nm)) (tm_lot (nm := nm)) (gv_var rfl ⟨_, rfl, hv.sq⟩) (fun _ e => by rw [e]; omega) (fun _ => rfl) ?_ ?_) fun r H1 s1 ⟨as, e, hr1⟩ => ?_))
    · rintro _ x c H2 rfl hc s2 rx
      refine gt_gv (gv_imp (gv_any (bs := l.map fun y => decide (y ∈ c)) (gv_imp (gv_lcT0 (fun y => decide (y ∈ c)) (fun as => as = l) (tm_nm (nm := nm)) tm_bl (gv_var rfl ⟨_, rfl, (lot_tup.mp (tm_lot.same s2 hu')).sq⟩) (fun _ e => by rw [e]; omega) (fun _ => rfl) ?_) fun r H3 _ ⟨_, e, h⟩ => by rw [e] at h; exact h.l)) fun r H3 _ e => by rw [e, List.any_map]; rfl)
      rintro _ y d H3 rfl hd s3 ry Q' q'
      obtain ⟨a, rfl, ha⟩ := tm_lot.same s3 rx
      rw [show y = sv nm d from ry]
      refine r_op (r_var rfl (r_var rfl ⟨a, _, rfl, .inr (SqT.of ha), rfl, flat_svs, ?_⟩))
      rw [if_neg Bool.false_ne_true, inV_sv N (hln d hd) (hN.lt hw c hc)]
      exact q' _ _ (Same.refl _) rfl
    · rintro _ x c H2 rfl hc s2 rx _
      exact gv_var rfl rx
    · rw [e, List.map_id] at hr1
      refine r_seq (r_if (gt_use (b := b) (gt_gv (gv_var rfl rfl)) fun H2 s2 => ?_))
      cases b with
      | true =>
        refine iteT (r_ret (r_var rfl (q _ _ (s1.trans s2) ?_)))
        obtain ⟨p, xs, e1, e2, e3, e4⟩ := hr1
        refine ⟨p, xs, e1, e2, s2 _ _ e3, ?_⟩
        have : wayF t l true L = L.filter fun Nd => l.any fun x => decide (x ∈ Nd) := by
          unfold wayF
          exact List.filter_eq_self.mpr fun _ _ => rfl
        show P2 (LotV nm H2) xs (wayF t l true L)
        rw [this]
        exact e4.imp fun _ _ k => tm_lot.same s2 k
      | false =>
        obtain ⟨hne, hsb⟩ := hsub rfl
        refine iteF (r_next (r_seq (r_asg (gv_use (gv_len (n := (nmS (hd (el l) t)).length) (gv_imp (gv_call2 (R := fun H1 r => LotV nm H1 r (nmS (hd (el l) t))) (gv_var (R := fun H r => LstV (LotV nm) H r L) rfl (hv.same tm_lot (s1.trans s2))) (fun H3 s3 => gv_var (R := fun H r => LotV nm H r l) rfl (tm_lot.same ((s1.trans s2).trans s3) hu')) fun x y H3 H4 s3 rx s4 ry => ⟨(t, L, l), ⟨x, y, rfl, rx.same tm_lot s4, ry, hw, hN, hne, hlen, hsb⟩, fun r H5 s5 z => z⟩) fun r H3 s3 z => by have := (lot_tup.mp z).lens (K := K); exact this)) fun m H3 s3 em => ?_))))
        subst em
        refine r_ret (gv_use (gv_lcL (fun Nd => decide (Nd.length ≤ (nmS (hd (el l) t)).length)) id (fun as => as = L.filter fun Nd => l.any fun x => decide (x ∈ Nd)) (tm_lot (nm := nm)) (tm_lot (nm := nm)) (gv_var rfl ⟨_, rfl, (hr1.l.same tm_lot (s2.trans s3)).sq⟩) (fun _ e => by rw [e]; have := List.length_filter_le (fun Nd => l.any fun x => decide (x ∈ Nd)) L; omega) (fun _ => rfl) ?_ ?_) fun r H4 s4 ⟨as, e4, hr4⟩ => q _ _ (((s1.trans s2).trans s3).trans s4) ?_)
        · rintro _ x c H4 rfl hc s4 rx
          refine gt_test fun Q' q' => r_op (gv_use (gv_len (n := c.length) (gv_var rfl ((lot_tup.mp rx).lens (K := K)))) fun y H5 s5 ey => r_var rfl ⟨_, _, ey, rfl, q' _ _ s5 ?_⟩)
          exact congrArg V.bl (decide_eq_decide.mpr Int.ofNat_le)
        · rintro _ x c H4 rfl hc s4 rx _
          exact gv_var rfl rx
        · rw [e4, List.map_id] at hr4
          have : wayF t l false L = (L.filter fun Nd => l.any fun x => decide (x ∈ Nd)).filter fun Nd => decide (Nd.length ≤ (nmS (hd (el l) t)).length) := by unfold wayF; simp
          show LstN (LotV nm) H H4 r (wayF t l false L)
          rw [this]
          exact hr4.back ((s1.trans s2).trans s3)
end
end Jw
end

section
set_option Elab.async false
set_option linter.all false
set_option maxRecDepth 100000
set_option maxHeartbeats 4000000
/-! are_apart, share. -/
namespace Jw
open PySem PySem.Spec PyProof.Rows L2 Jt JH
section
variable {P : Program} {w : World} {K : PySem.W.Frag} {mg : Str → Option Value} {base : Heap} {f : Addr} {fd : FuncData} {nm : Nat → Str} {n : Nat}
/-- lots as they come: some names of a tree -/
structure LotsOk (n : Nat) (t : Tr) (top : List Nat) (o : List (List Nat)) : Prop where
  tl : top.length ≤ 10 ∧ ∀ x ∈ top, x < n
  ol : o.length ≤ 5
  each : ∀ l ∈ o, l ≠ [] ∧ l.length ≤ 10 ∧ ∀ x ∈ l, x ∈ t.nm
def spAreApart (nm : Nat → Str) (n : Nat) : Sp := Pur (ι := Tr × List Nat × List (List Nat)) (fun i vs H => ∃ v u o, vs = [v, u, o] ∧ TrV nm H v i.1 ∧ LotV nm H u i.2.1 ∧ TupV (LotV nm) H o i.2.2 ∧ Wf n i.1 ∧ LotsOk n i.1 i.2.1 i.2.2) (fun i _ _ r => r = .bl (decide (Apart i.1 i.2.1 i.2.2)))
theorem sc_are_apart : FnScope ["tree", "top", "others", "nodes", "ways", "lot", "node"] ["tree", "top", "others"] (defScope s_are_apart) := ⟨rfl, rfl, rfl, by decide +kernel, rfl, by decide +kernel, by decide +kernel⟩
theorem ok_are_apart (F : FnD K "are_apart" s_are_apart f fd) (B : Bi mg) (N : Nm nm n) (c_nodes_of : Cal P w K mg base 23 "nodes_of" ["tree"] (spNodesOf nm n)) (c_way_of : CalD P w K mg base 3 "way_of" ["nodes", "lot", "is_top"] (spWayOf nm n) [.bl false]) (k_way_of : CalK P w K mg base 3 "way_of" ["nodes", "lot", "is_top"] (spWayOf nm n) 2 ["is_top"]) :
    FnOk P w K mg base CX0 24 f fd ["tree", "top", "others"] (spAreApart nm n) := by
  refine F.ok sc_are_apart (fun vs H Q E h => ?_) (fun cdv A outer s H vs Q E hr h => ?_)
  · obtain ⟨t, ⟨v, u, o, rfl, _⟩, _⟩ := h; rfl
  · obtain ⟨⟨t, top, o⟩, ⟨v, u, ov, rfl, hv, hu', ho, hw, hO⟩, q⟩ := h
    simp only at hv hu' ho hw hO
    have hu := hr.units
    refine ⟨_, PSs.nox (pss_cons (ps_set (i := 3) sc_are_apart.nd rfl (by first | exact Or.inl rfl | exact Or.inr rfl) (pe_cal c_nodes_of (hr.mono (by first | decide | omega)) (pa_cons (pv 0) pa_nil)))
      (pss_cons (ps_set (i := 4) sc_are_apart.nd rfl (by first | exact Or.inl rfl | exact Or.inr rfl) (pe_op op_cat (pe_calK k_way_of (hr.mono (by first | decide | omega)) (pa_cons (pv 3) (pa_cons (pv 1) pa_nil)) (pk_cons (pe_bl) pk_nil)) (pe_lc2 (own := [("lot", 5), ("node", 6)]) (vs1 := [6]) rfl sc_are_apart.nd (piT K (pv 2)) (blkOk_by (N := ["tree", "top", "others", "nodes", "ways", "lot", "node"]) (sc := defScope s_are_apart) (by decide +kernel)) (by decide) (fun _ _ _ _ _ => (pg_name (i := 5) sc_are_apart.nd rfl (by first | exact Or.inl rfl | exact Or.inr rfl))) (fun _ _ _ _ _ => pts_nil) (fun _ _ _ _ _ => (piL K (pe_calD c_way_of (hr.mono (by first | decide | omega)) (pa_cons (pv 3) (pa_cons (pv 5) pa_nil))))) (fun _ _ _ _ _ => (pg_name (i := 6) sc_are_apart.nd rfl (by first | exact Or.inl rfl | exact Or.inr rfl))) (fun _ _ _ _ _ => pts_nil) (fun _ _ _ _ _ => (pv 6)))))
      (pss_one (ps_ret (pe_cmpR op_eq (pe_callB (lenSetS P w) (by rfl) B.len boot_len (pa_cons (pe_callTy (setS K P w rfl hu) (by rfl) B.set boot_set (pa_cons (pv 4) pa_nil)) pa_nil)) (pe_callB (lenQ K) (by rfl) B.len boot_len (pa_cons (pv 4) pa_nil)) (by rfl)))))), ?_⟩
    have hsl := sizeLine_eq
    have h9 := hw.sz N.few
    refine r_seq (r_asg (gv_use (gv_call1 (R := fun H1 r => ∃ L, Nodes t L ∧ LstN (LotV nm) H H1 r L) (gv_var rfl hv) fun x H1 s1 rx => ⟨t, ⟨x, rfl, rx, hw⟩, fun r H2 s2 ⟨L, hN, z⟩ => ⟨L, hN, z.back s1⟩⟩) fun nv H1 s1 ⟨L, hN, hL⟩ => ?_))
    have hLl := hN.len
    have hol := hO.ol
    refine r_seq (r_asg (r_op (r_callK21 (r_var rfl (r_var rfl (r_c ⟨rfl, rfl, (t, L, top, true), ⟨nv, u, rfl, hL.l, tm_lot.same s1 hu', hw, hN, Nat.le_trans hO.tl.1 (by omega), hO.tl.2, fun z => by cases z⟩, fun r H2 s2 ⟨p1, xs, e1, f1, hp1, r1⟩ => ?_⟩))))))
    have hfl := ways_fl_len (t := t) (L := L) 9 (by omega) o
    refine gv_use (gv_lc2L o (fun l => wayF t l false L) (tm_lot (nm := nm)) (tm_lot (nm := nm)) (gv_var rfl ((tm_tup tm_lot).same (s1.trans s2) ho).sq) (by omega) (by omega) (fun _ => rfl) (fun _ _ => rfl) (fun _ _ => rfl) fun x c H3 hc s3 rx => ?_) fun r2 H3 s3 ⟨p2, ys, e2, f2, hp2, r2'⟩ => ?_
    · refine fun Q' q' => ?_
      have hcc := hO.each c hc
      exact r_callD2 (r_var rfl (r_var rfl ⟨(t, L, c, false), ⟨nv, x, rfl, hL.l.same tm_lot (s2.trans s3), rx, hw, hN, by show c.length ≤ 100; omega, fun y hy => hw.lt y (hcc.2.2 y hy), fun _ => ⟨hcc.1, hcc.2.2⟩⟩, fun r H4 s4 z => q' r H4 s4 z⟩))
    · have l1 := r1.len
      have l2 := r2'.len
      have l3 := wayF_len (t := t) (L := L) (l := top) (b := true)
      have l4 : xs.length = (wayF t top true L).length := l1
      refine ⟨p1, p2, xs, ys, e1, e2, s3 _ _ hp1, hp2, by omega, fun p hp => ?_⟩
      have hways : LstV (LotV nm) (upd H3 p (.lst (xs ++ ys))) (.ref p) (ways t top o L) := ⟨p, _, rfl, upd_same, (r1.imp fun _ _ k => tm_lot.same (s3.trans (same_new hp _)) k).app (r2'.imp fun _ _ k => tm_lot.same (same_new hp _) k)⟩
      have lw : (ways t top o L).length < 64 := by unfold ways; rw [List.length_append]; omega
      refine r_ret (r_op (gv_use (gv_lenSet N (fun W => W = ways t top o L) (gv_var rfl ⟨_, rfl, hways.sq.q⟩) fun W e => by rw [e]; exact ⟨lw, ways_lt hN hw⟩) fun m H4 s4 ⟨W, m', eW, em, hle, hiff⟩ => ?_))
      subst eW
      refine gv_use (gv_len (n := (ways t top o L).length) (gv_var rfl ((hways.same tm_lot s4).lens (K := K)))) fun y H5 s5 ey => ⟨by rw [em, ey]; rfl, q _ _ (((((s1.trans s2).trans s3).trans (same_new hp _)).trans s4).trans s5) ?_⟩
      rw [em, ey]
      refine congrArg V.bl (decide_eq_decide.mpr ?_)
      rw [← ways_apart hw.ok hN (fun l hl => ⟨(hO.each l hl).1, (hO.each l hl).2.2⟩), ← hiff]
      constructor
      · intro e
        have : (m' : Int) = ((ways t top o L).length : Nat) := V.int.inj e
        omega
      · intro e
        rw [e]
/-! ### share -/
def spShare (nm : Nat → Str) (n : Nat) : Sp := Pur (ι := Tr × Tr × List Nat × List (List Nat)) (fun i vs H => ∃ v v' u o, vs = [v, v', u, o] ∧ TrV nm H v i.1 ∧ TrV nm H v' i.2.1 ∧ LotV nm H u i.2.2.1 ∧ TupV (LotV nm) H o i.2.2.2 ∧ Wf n i.1 ∧ Wf n i.2.1 ∧ LotsOk n i.1 i.2.2.1 i.2.2.2 ∧ LotsOk n i.2.1 i.2.2.1 i.2.2.2)
  (fun i _ _ r => r = .bl (decide (Share i.1 i.2.1 i.2.2.1 i.2.2.2)))
theorem sc_share : FnScope ["one", "other", "top", "others", "lots", "lot"] ["one", "other", "top", "others"] (defScope s_share) := ⟨rfl, rfl, rfl, by decide +kernel, rfl, by decide +kernel, by decide +kernel⟩
theorem ok_share (F : FnD K "share" s_share f fd) (B : Bi mg) (N : Nm nm n) (c_tree_to : Cal P w K mg base 15 "tree_to" ["tree", "names"] (spTreeTo nm n)) (c_are_apart : Cal P w K mg base 24 "are_apart" ["tree", "top", "others"] (spAreApart nm n)) :
    FnOk P w K mg base CX0 25 f fd ["one", "other", "top", "others"] (spShare nm n) := by
  refine F.ok sc_share (fun vs H Q E h => ?_) (fun cdv A outer s H vs Q E hr h => ?_)
  · obtain ⟨t, ⟨v, v', u, o, rfl, _⟩, _⟩ := h; rfl
  · obtain ⟨⟨t, g, top, o⟩, ⟨v, v', u, ov, rfl, hv, hv', hu', ho, hw, hw', hO, hO'⟩, q⟩ := h
    simp only at hv hv' hu' ho hw hw' hO hO'
    have hu := hr.units
    refine ⟨_, PSs.nox (pss_cons (ps_setLc (own := [("lot", 5)]) (i := 4) rfl sc_share.nd rfl rfl (sw_true rfl rfl rfl (by decide +kernel)) (piT K (pe_op (catA K) (pe_tup (pa_cons (pv 2) pa_nil)) (pv 3))) (blkOk_by (N := ["one", "other", "top", "others", "lots", "lot"]) (sc := defScope s_share) (by decide +kernel)) (fun _ _ _ _ _ => (pg_name (i := 5) sc_share.nd rfl (by first | exact Or.inl rfl | exact Or.inr rfl))) (fun _ _ _ _ _ => pts_one (pt_cmpR (neD K hu) (pv 5) (pe_tup pa_nil) (by rfl))) (fun _ _ _ _ _ => (pv 5)))
      (pss_cons (ps_if (pt_not (pt_val (pe_callB (allQ K) (by rfl) B.all boot_all (pa_cons (pe_lc (own := [("lot", 5)]) rfl sc_share.nd (piL K (pv 4)) (blkOk_by (N := ["one", "other", "top", "others", "lots", "lot"]) (sc := defScope s_share) (by decide +kernel)) (fun _ _ _ _ _ => (pg_name (i := 5) sc_share.nd rfl (by first | exact Or.inl rfl | exact Or.inr rfl))) (fun _ _ _ _ _ => pts_nil) (fun _ _ _ _ _ => (pe_cmpR (eqD K hu) (pe_cal c_tree_to (hr.mono (by first | decide | omega)) (pa_cons (pv 0) (pa_cons (pv 5) pa_nil))) (pe_cal c_tree_to (hr.mono (by first | decide | omega)) (pa_cons (pv 1) (pa_cons (pv 5) pa_nil))) (by rfl)))) pa_nil)))) (pss_one (ps_ret (pe_bl))) pss_nil)
      (pss_one (ps_ret (pe_and (pe_cal c_are_apart (hr.mono (by first | decide | omega)) (pa_cons (pv 0) (pa_cons (pv 2) (pa_cons (pv 3) pa_nil)))) (pe_one (pe_cal c_are_apart (hr.mono (by first | decide | omega)) (pa_cons (pv 1) (pa_cons (pv 2) (pa_cons (pv 3) pa_nil)))))))))), ?_⟩
    have hol := hO.ol
    have hlt : ∀ l ∈ top :: o, ∀ x ∈ l, x < n := fun l hl x hx => by
      rcases List.mem_cons.mp hl with rfl | hl
      · exact hO.tl.2 x hx
      · exact hw.lt x ((hO.each l hl).2.2 x hx)
    refine r_seq (r_asg (gv_use (gv_lcT (fun l => decide (l ≠ [])) id (fun as => as = top :: o) (tm_lot (nm := nm)) (tm_lot (nm := nm)) (gv_imp (gv_catA (tm_lot (nm := nm)) (gv_one (tm_lot (nm := nm)) (gv_var (R := fun H r => LotV nm H r top) rfl hu')) (fun H1 s1 => gv_var (R := fun H r => TupV (LotV nm) H r o) rfl ((tm_tup tm_lot).same s1 ho)) (by simp; omega)) fun r H1 s1 z => ⟨_, rfl, TupV.sq z⟩) (fun _ e => by rw [e]; simp; omega) (fun _ => rfl) ?_ ?_) fun lv H1 s1 ⟨as, e, hl1⟩ => ?_))
    · rintro _ x c H2 rfl hc s2 rx
      refine gt_test (gv_imp (gv_neD (da := dL nm c) (db := .tuple []) (gv_var (R := fun H v => LotV nm H v c) rfl rx) (fun H2 s2 => gv_unit (α := Nat) (RA := NmV nm)) (fun x y H2 H3 s2 rx s3 ⟨p, ys, ey, hy, ry⟩ => ⟨dp_lot (tm_lot.same s3 rx), by rw [ey]; cases ry; exact .tup (SqT.of hy) .nil⟩) (sh_dL N (hlt c hc)) sh_nil) fun r H3 _ e => ?_)
      rw [e]
      cases c with
      | nil => simp [dL, PyData.eqv, PyData.eqvAll]
      | cons x l => simp [dL, PyData.eqv, PyData.eqvAll]
    · rintro _ x c H2 rfl hc s2 rx _
      exact gv_var rfl rx
    · rw [e, List.map_id] at hl1
      clear e
      refine r_seq (r_if (gt_use (gt_not (gt_gv (gv_all (bs := ((top :: o).filter fun l => decide (l ≠ [])).map fun l => decide (res (el l) t = res (el l) g)) (gv_imp (gv_lcL0 (fun l => decide (res (el l) t = res (el l) g)) (fun as => as = (top :: o).filter fun l => decide (l ≠ [])) (tm_lot (nm := nm)) tm_bl (gv_var rfl ⟨_, rfl, hl1.l.sq⟩) (fun _ e => by rw [e]; have := List.length_filter_le (fun l => decide (l ≠ [])) (top :: o); simp only [List.length_cons] at this; omega) (fun _ => rfl) ?_) fun r H3 _ ⟨_, e, h⟩ => by rw [e] at h; exact h.l)))) fun H2 s2 => ?_))
      · rintro _ x c H2 rfl hc s2 rx
        have hcl := hlt c (List.mem_filter.mp hc).1
        refine gv_imp (gv_eqD (da := dO nm (res (el c) t)) (db := dO nm (res (el c) g)) (Ra := fun H r => OTr nm H r (res (el c) t)) (Rb := fun H r => OTr nm H r (res (el c) g)) (gv_call2 (gv_var (R := fun H r => TrV nm H r t) rfl (tm_tr.same (s1.trans s2) hv)) (fun H3 s3 => gv_var (R := fun H r => LotV nm H r c) rfl (tm_lot.same s3 rx)) fun x y H3 H4 s3 rx s4 ry => ⟨(t, c), ⟨x, y, rfl, tm_tr.same s4 rx, ry, hw, hcl⟩, fun r H5 s5 z => z⟩)
          (fun H3 s3 => gv_call2 (gv_var (R := fun H r => TrV nm H r g) rfl (tm_tr.same ((s1.trans s2).trans s3) hv')) (fun H4 s4 => gv_var (R := fun H r => LotV nm H r c) rfl (tm_lot.same (s3.trans s4) rx)) fun x y H3 H4 s3 rx s4 ry => ⟨(g, c), ⟨x, y, rfl, tm_tr.same s4 rx, ry, hw', hcl⟩, fun r H5 s5 z => z⟩)
          (fun x y H3 H4 s3 rx s4 ry => ⟨dp_otr (tm_otr.same s4 rx), dp_otr ry⟩) (sh_dO N fun t' e => hw.res e) (sh_dO N fun t' e => hw'.res e)) fun r H3 _ e => ?_
        rw [e, eqv_dO N (fun t' e => hw.res e) (fun t' e => hw'.res e)]
        rfl
      · have hS : Share t g top o ↔ ((((top :: o).filter fun l => decide (l ≠ [])).map fun l => decide (res (el l) t = res (el l) g)).all id = true) ∧ Apart t top o ∧ Apart g top o := by
          unfold Share
          rw [List.all_map, List.all_eq_true]
          constructor
          · rintro ⟨h1, h2⟩
            exact ⟨fun l hl => decide_eq_true (h1 l (List.mem_filter.mp hl).1 (of_decide_eq_true (List.mem_filter.mp hl).2)), h2⟩
          · rintro ⟨h1, h2⟩
            exact ⟨fun l hl hn => of_decide_eq_true (h1 l (List.mem_filter.mpr ⟨hl, decide_eq_true hn⟩)), h2⟩
        cases hb : ((((top :: o).filter fun l => decide (l ≠ [])).map fun l => decide (res (el l) t = res (el l) g)).all id) with
        | false =>
          refine iteT (r_ret (r_c (q _ _ (s1.trans s2) ?_)))
          refine congrArg V.bl (decide_eq_false fun z => ?_).symm
          have := (hS.mp z).1
          rw [hb] at this; cases this
        | true =>
          refine iteF (r_next (r_ret (gv_use (gv_and (b := decide (Apart t top o)) (c := decide (Apart g top o))
            (gv_call3 (gv_var (R := fun H r => TrV nm H r t) rfl (tm_tr.same (s1.trans s2) hv)) (fun H3 s3 => gv_var (R := fun H r => LotV nm H r top) rfl (tm_lot.same ((s1.trans s2).trans s3) hu')) (fun H3 s3 => gv_var (R := fun H r => TupV (LotV nm) H r o) rfl ((tm_tup tm_lot).same ((s1.trans s2).trans s3) ho)) fun x y z H3 H4 H5 s3 rx s4 ry s5 rz => ⟨(t, top, o), ⟨x, y, z, rfl, tm_tr.same (s4.trans s5) rx, tm_lot.same s5 ry, rz, hw, hO⟩, fun r H6 s6 z => z⟩)
            (fun H3 s3 => gv_call3 (gv_var (R := fun H r => TrV nm H r g) rfl (tm_tr.same ((s1.trans s2).trans s3) hv')) (fun H4 s4 => gv_var (R := fun H r => LotV nm H r top) rfl (tm_lot.same (((s1.trans s2).trans s3).trans s4) hu')) (fun H4 s4 => gv_var (R := fun H r => TupV (LotV nm) H r o) rfl ((tm_tup tm_lot).same (((s1.trans s2).trans s3).trans s4) ho)) fun x y z H3 H4 H5 s3 rx s4 ry s5 rz => ⟨(g, top, o), ⟨x, y, z, rfl, tm_tr.same (s4.trans s5) rx, tm_lot.same s5 ry, rz, hw', hO'⟩, fun r H6 s6 z => z⟩)) fun r H3 s3 e => q _ _ ((s1.trans s2).trans s3) ?_)))
          rw [e]
          refine congrArg V.bl ?_
          rw [← Bool.decide_and]
          exact decide_eq_decide.mpr ⟨fun z => hS.mpr ⟨hb, z⟩, fun z => (hS.mp z).2⟩
end
end Jw
end

section
set_option Elab.async false
set_option linter.all false
set_option maxRecDepth 100000
set_option maxHeartbeats 4000000
/-! are_parts, lets_forest. -/
namespace Jw
open PySem PySem.Spec PyProof.Rows L2 Jt JH
section
variable {P : Program} {w : World} {K : PySem.W.Frag} {mg : Str → Option Value} {base : Heap} {f : Addr} {fd : FuncData} {nm : Nat → Str} {n : Nat}
structure PartsOk (nm : Nat → Str) (n : Nat) (names top : List Nat) (o : List (List Nat)) : Prop where
  tr : top.Pairwise (· < ·)
  each : ∀ l ∈ o, l ≠ [] ∧ l.Pairwise (· < ·)
  lt : ∀ l ∈ top :: o, ∀ x ∈ l, x < n
  srt : Srt (dL nm) o
  nd : (top ++ o.flatten).Nodup
  mem : ∀ x, x ∈ names ↔ x ∈ top ++ o.flatten
  nr : names.Pairwise (· < ·)
  ol : o.length ≤ 5
theorem PartsOk.ond {names top : List Nat} {o : List (List Nat)} (h : PartsOk nm n names top o) : o.Nodup := by
  have h1 := (List.nodup_append.mp h.nd).2.1
  unfold List.Nodup at h1
  rw [List.pairwise_flatten] at h1
  refine h1.2.imp_of_mem fun {a b} ha hb k e => ?_
  subst e
  obtain ⟨x, hx⟩ := List.exists_mem_of_ne_nil a (h.each a ha).1
  exact k x hx x hx rfl
def spAreParts (nm : Nat → Str) (n : Nat) : Sp := Pur (ι := List Nat × List (List Nat) × List Nat) (fun i vs H => ∃ v u, vs = [v, u] ∧ PrV (LotV nm) (TupV (LotV nm)) H v (i.1, i.2.1) ∧ LotV nm H u i.2.2 ∧ PartsOk nm n i.2.2 i.1 i.2.1) (fun _ _ _ r => r = .bl true)
theorem sc_are_parts : FnScope ["thing", "names", "top", "others", "lot", "name"] ["thing", "names"] (defScope s_are_parts) := ⟨rfl, rfl, rfl, by decide +kernel, rfl, by decide +kernel, by decide +kernel⟩
theorem ok_are_parts (F : FnD K "are_parts" s_are_parts f fd) (B : Bi mg) (N : Nm nm n) (c_is_lot : Cal P w K mg base 2 "is_lot" ["thing"] (spIsLot nm n)) : FnOk P w K mg base CX0 3 f fd ["thing", "names"] (spAreParts nm n) := by
  refine F.ok sc_are_parts (fun vs H Q E h => ?_) (fun cdv A outer s H vs Q E hr h => ?_)
  · obtain ⟨t, ⟨v, u, rfl, _⟩, _⟩ := h; rfl
  · obtain ⟨⟨top, o, names⟩, ⟨v, u, rfl, hv, hu', hP⟩, q⟩ := h
    simp only at hv hu' hP
    have hu := hr.units
    refine ⟨_, PSs.nox (pss_cons (ps_if ((pw_or (pt_not (pt_val (pe_callB (isiQ K) (by rfl) B.isinstance boot_isinstance (pa_cons (pv 0) (pa_cons (pe_bltn (v := .ty "tuple") (by rfl) B.tuple boot_tuple rfl) pa_nil))))) (pw_or (pt_cmpR op_ne (pe_callB (lenQ K) (by rfl) B.len boot_len (pa_cons (pv 0) pa_nil)) (pe_int) (by rfl)) (pw_or1 (pt_not (pt_val (pe_callB (isiQ K) (by rfl) B.isinstance boot_isinstance (pa_cons (pe_ix (ixT K) (pv 0) (pe_int) (fun _ _ => rfl)) (pa_cons (pe_bltn (v := .ty "tuple") (by rfl) B.tuple boot_tuple rfl) pa_nil)))))))).pt) (pss_one (ps_ret (pe_bl))) pss_nil)
      (pss_cons (ps_asg (pv 0) (pg_tup rfl (pgs_cons (pg_name (i := 2) sc_are_parts.nd rfl (by first | exact Or.inl rfl | exact Or.inr rfl)) (pgs_cons (pg_name (i := 3) sc_are_parts.nd rfl (by first | exact Or.inl rfl | exact Or.inr rfl)) pgs_nil))))
      (pss_cons (ps_if ((pw_or ((pw_and (pt_cmpR (neD K hu) (pv 2) (pe_tup pa_nil) (by rfl)) (pw_and1 (pt_not (pt_val (pe_cal c_is_lot (hr.mono (by first | decide | omega)) (pa_cons (pv 2) pa_nil)))))).pt) (pw_or (pt_not (pt_val (pe_callB (isiQ K) (by rfl) B.isinstance boot_isinstance (pa_cons (pv 2) (pa_cons (pe_bltn (v := .ty "tuple") (by rfl) B.tuple boot_tuple rfl) pa_nil))))) (pw_or1 (pt_not (pt_val (pe_callB (allQ K) (by rfl) B.all boot_all (pa_cons (pe_lc (own := [("lot", 4)]) rfl sc_are_parts.nd (piT K (pv 3)) (blkOk_by (N := ["thing", "names", "top", "others", "lot", "name"]) (sc := defScope s_are_parts) (by decide +kernel)) (fun _ _ _ _ _ => (pg_name (i := 4) sc_are_parts.nd rfl (by first | exact Or.inl rfl | exact Or.inr rfl))) (fun _ _ _ _ _ => pts_nil) (fun _ _ _ _ _ => (pe_cal c_is_lot (hr.mono (by first | decide | omega)) (pa_cons (pv 4) pa_nil)))) pa_nil))))))).pt) (pss_one (ps_ret (pe_bl))) pss_nil)
      (pss_cons (ps_if (pt_cmpR (neD K hu) (pe_callB (sortSetS K P w rfl hu) (by rfl) B.sorted boot_sorted (pa_cons (pe_callTy (setS K P w rfl hu) (by rfl) B.set boot_set (pa_cons (pv 3) pa_nil)) pa_nil)) (pe_callTy (listQ K) (by rfl) B.list boot_list (pa_cons (pv 3) pa_nil)) (by rfl)) (pss_one (ps_ret (pe_bl))) pss_nil)
      (pss_one (ps_ret (pe_cmpR (eqD K hu) (pe_callB (sortQ K hu) (by rfl) B.sorted boot_sorted (pa_cons (pe_lc2 (own := [("lot", 4), ("name", 5)]) (vs1 := [5]) rfl sc_are_parts.nd (piT K (pe_op (catA K) (pe_tup (pa_cons (pv 2) pa_nil)) (pv 3))) (blkOk_by (N := ["thing", "names", "top", "others", "lot", "name"]) (sc := defScope s_are_parts) (by decide +kernel)) (by decide) (fun _ _ _ _ _ => (pg_name (i := 4) sc_are_parts.nd rfl (by first | exact Or.inl rfl | exact Or.inr rfl))) (fun _ _ _ _ _ => pts_nil) (fun _ _ _ _ _ => (piT K (pv 4))) (fun _ _ _ _ _ => (pg_name (i := 5) sc_are_parts.nd rfl (by first | exact Or.inl rfl | exact Or.inr rfl))) (fun _ _ _ _ _ => pts_nil) (fun _ _ _ _ _ => (pv 5))) pa_nil)) (pe_callTy (listQ K) (by rfl) B.list boot_list (pa_cons (pv 1) pa_nil)) (by rfl)))))))), ?_⟩
    obtain ⟨p, x, y, rfl, hp, hx, hy⟩ := hv
    simp only at hx hy
    obtain ⟨py, ys, ey, hyp, ry⟩ := id hy
    have hol := hP.ol
    refine r_seq (r_if (gt_use (b := false) (gt_or (b := false) (gt_not (b := true) (gt_gv (gv_isTup (R := fun _ _ => True) (gv_var rfl ⟨p, _, rfl, hp⟩)))) (c := false) fun H1 s1 => gt_or (b := false) (gt_test fun Q' q' => ?_) fun H2 s2 => gt_not (b := true) (gt_gv (gv_isTup (R := fun _ _ => True) fun Q' q' => ?_))) fun H1 s1 => iteF (r_next ?_)))
    · exact r_op (gv_use (gv_len (n := 2) (gv_var rfl ⟨p, _, rfl, .inr (SqT.of (s1 _ _ hp)), rfl⟩)) fun z H2 s2 e => r_c ⟨by rw [e]; rfl, q' _ _ s2 (by rw [e]; rfl)⟩)
    · exact r_op (r_var rfl (r_c ⟨p, _, _, y, rfl, rfl, SqT.of ((s1.trans s2) _ _ hp), atI_nat (j := 1) rfl, q' _ _ (Same.refl _) ⟨py, ys, ey, (s1.trans s2) _ _ hyp⟩⟩))
    · refine r_seq (r_asgP (r_var rfl ⟨p, [x, y], rfl, SqT.of (s1 _ _ hp), rfl, x, _, rfl, y, _, rfl, rfl, ?_⟩))
      have hx1 := tm_lot.same s1 hx
      have hy1 := (tm_tup tm_lot).same s1 hy
      refine r_seq (r_if (gt_use (b := false) (gt_or (b := false) (gt_and (b := decide (top ≠ [])) (c := false) (gt_test (gv_imp (gv_neD (da := dL nm top) (db := .tuple []) (gv_var (R := fun H v => LotV nm H v top) rfl hx1) (fun H2 s2 => gv_unit (α := Nat) (RA := NmV nm)) (fun x y H2 H3 s2 rx s3 ⟨p, ys, ey, hy, ry⟩ => ⟨dp_lot (tm_lot.same s3 rx), by rw [ey]; cases ry; exact .tup (SqT.of hy) .nil⟩) (sh_dL N (hP.lt top (by simp))) sh_nil) fun r H3 _ e => ?_)) (fun hb H2 s2 => gt_not (b := true) (gt_gv (gv_call1 (gv_var (R := fun H v => LotV nm H v top) rfl (tm_lot.same s2 hx1)) fun z H3 s3 rz => ⟨top, ⟨z, rfl, rz, of_decide_eq_true hb, hP.tr, hP.lt top (by simp)⟩, fun r H4 s4 e => e⟩))) (fun _ => rfl)) (c := false)
        fun H2 s2 => gt_or (b := false) (gt_not (b := true) (gt_gv (gv_isTup (R := fun _ _ => True) (gv_var (R := fun H v => ∃ p xs, v = .ref p ∧ H p = some (.tup xs)) rfl (let ⟨a, e, h⟩ := tm_lot.same s2 hx1; ⟨a, _, e, h⟩))))) fun H3 s3 => gt_not (b := true) (gt_gv (gv_imp (gv_all (bs := o.map fun _ => true) (gv_imp (gv_lcT0 (fun _ => true) (fun as => as = o) (tm_lot (nm := nm)) tm_bl (gv_var rfl ⟨o, rfl, ((tm_tup tm_lot).same (s2.trans s3) hy1).sq⟩) (fun _ e => by rw [e]; omega) (fun _ => rfl) ?_) fun r H3 _ ⟨_, e, h⟩ => by rw [e] at h; exact h.l)) fun r H3 _ e => by rw [e]; simp))) fun H2 s2 => iteF (r_next ?_)))
      · rw [e]
        cases top with
        | nil => simp [dL, PyData.eqv, PyData.eqvAll]
        | cons x l => simp [dL, PyData.eqv, PyData.eqvAll]
      · rintro _ z c H4 rfl hc s4 rz
        exact gv_call1 (gv_var rfl rz) fun z2 H5 s5 rz2 => ⟨c, ⟨z2, rfl, rz2, (hP.each c hc).1, (hP.each c hc).2, hP.lt c (List.mem_cons_of_mem _ hc)⟩, fun r H6 _ e => e⟩
      · have hx2 := tm_lot.same s2 hx1
        have hy2 := (tm_tup tm_lot).same s2 hy1
        have hlo : ∀ l ∈ o, ∀ x ∈ l, x < n := fun l hl => hP.lt l (List.mem_cons_of_mem _ hl)
        refine r_seq (r_if (gt_use (b := false) (gt_test fun Q' q' => r_op (gv_use (gv_sortSet N (fun o' => o' = o) (gv_var rfl ⟨o, rfl, hy2.sq.q⟩) fun o' e => by rw [e]; exact ⟨by omega, fun l hl => ⟨(hP.each l hl).1, hlo l hl⟩⟩) fun r H3 s3 ⟨o', bs, eo, bn, bm, bsr, hb⟩ => gv_use (gv_listOf (K := K) (fun o' => o' = o) (tm_lot (nm := nm)) (gv_var rfl ⟨o, rfl, ((tm_tup tm_lot).same s3 hy2).sq.q⟩)) fun r2 H4 s4 ⟨o2, eo2, hb2⟩ => ?_)) fun H3 s3 => iteF (r_next ?_)))
        rotate_left
        · rw [eo] at bm
          rw [eo2] at hb2
          have eb : bs = o := srt_eq N (fun l hl => hlo l ((bm l).mp hl)) ((List.perm_ext_iff_of_nodup bn hP.ond).mpr bm) bsr hP.srt
          subst eb
          obtain ⟨p5, zs, e5, _, h5, r5⟩ := hb
          obtain ⟨p6, zs6, e6, _, h6, r6⟩ := hb2
          have shp : SeqAt.shaped (.list (bs.map (dL nm))) = true := shaped_of (by simp only [PyData.canLay0]; exact lay_map _ bs fun l hl => lay_dL N (hlo l hl)) (by have := depth_map (dL nm) 1 bs fun l _ => depth_dL l; simp only [PyData.depth]; omega)
          refine ⟨.list (bs.map (dL nm)), .list (bs.map (dL nm)), by rw [e5]; exact .lst (SqL.of (s4 _ _ h5)) (dp_all (r5.imp fun _ _ k => tm_lot.same s4 k) fun _ _ => dp_lot), by rw [e6]; exact .lst (SqL.of h6) (dp_all r6 fun _ _ => dp_lot), shp, shp, q' _ _ (s3.trans s4) ?_⟩
          have : PyData.eqv (.list (bs.map (dL nm))) (.list (bs.map (dL nm))) = true := by rw [PyData.eqv]; exact (eqvAll_map _ bs bs fun a ha b hb => eqv_dL N (hlo a ha) (hlo b hb)).mpr rfl
          rw [this]; rfl
        · have ltf : ∀ x ∈ top ++ o.flatten, x < n := fun x hx => by
            rcases List.mem_append.mp hx with h | h
            · exact hP.lt top (by simp) x h
            · obtain ⟨l, hl, h⟩ := List.mem_flatten.mp h
              exact hlo l hl x h
          have lenf : (top ++ o.flatten).length ≤ n := len_lt hP.nd ltf
          have hfew := N.few
          have ltn : ∀ x ∈ names, x < n := fun x hx => ltf x ((hP.mem x).mp hx)
          have ef : ((top :: o).map fun l => l).flatten = top ++ o.flatten := by simp
          refine r_ret (gv_use (gv_eqD (da := .list (names.map (dN nm))) (db := .list (names.map (dN nm))) (Ra := fun H v => LstV (NmV nm) H v names) (Rb := fun H v => LstV (NmV nm) H v names) (gv_imp (gv_sorted (d := dN nm) (fun as => as = top ++ o.flatten) (tm_nm (nm := nm)) (gv_imp (gv_lc2T (K := K) (top :: o) (fun l => l) (tm_lot (nm := nm)) (tm_nm (nm := nm)) (gv_imp (gv_catA (tm_lot (nm := nm)) (gv_one (tm_lot (nm := nm)) (gv_var (R := fun H r => LotV nm H r top) rfl (tm_lot.same s3 hx2))) (fun H1 s1 => gv_var (R := fun H r => TupV (LotV nm) H r o) rfl ((tm_tup tm_lot).same (s3.trans s1) hy2)) (by simp; omega)) fun r H1 s1 z => TupV.sq z) (by simp; omega) (by rw [ef]; omega) (fun _ => rfl) (fun _ _ => rfl) (fun _ _ => rfl) fun x c H4 hc s4 rx => gv_var rfl (lot_tup.mp rx).sq) fun r H4 s4 z => ⟨_, ef.symm ▸ rfl, z.l.sq.q⟩) (fun as v a H1 _ _ r => dp_nm r) (fun as _ => alike_dN as) (fun as _ => sortable_dN as) (fun as _ a _ => by simp [PyData.depth])) fun r H4 s4 ⟨as, bs, e, pm, sr, hb⟩ => ?_)
            (fun H4 s4 => gv_imp (gv_listOf (K := K) (fun as => as = names) (tm_nm (nm := nm)) (gv_var rfl ⟨names, rfl, (lot_tup.mp (tm_lot.same ((s1.trans s2).trans (s3.trans s4)) hu')).sq.q⟩)) fun r H5 s5 ⟨as, e, hb⟩ => by rw [e] at hb; exact hb.l)
            (fun x y H4 H5 s4 ⟨p5, zs5, e5, h5, r5⟩ s5 ⟨p6, zs6, e6, h6, r6⟩ => ⟨by rw [e5]; exact .lst (SqL.of (s5 _ _ h5)) (dp_all (r5.imp fun _ _ k => tm_nm.same s5 k) fun _ _ => dp_nm), by rw [e6]; exact .lst (SqL.of h6) (dp_all r6 fun _ _ => dp_nm)⟩) ?_ ?_) fun r H4 s4 e => q _ _ (((s1.trans s2).trans s3).trans s4) ?_)
          · subst e
            have : bs = names := srt_uniq (srt_names N (fun x hx => ltf x (pm.mem_iff.mp hx)) (pm.nodup_iff.mpr hP.nd) sr) hP.nr fun x => (pm.mem_iff).trans (hP.mem x).symm
            rw [this] at hb
            exact hb.l
          · exact shaped_of (by simp only [PyData.canLay0]; exact lay_map _ names fun x hx => lay_dN N (ltn x hx)) (by have := depth_map (dN nm) 0 names (fun l _ => by simp [PyData.depth]); simp only [PyData.depth]; omega)
          · exact shaped_of (by simp only [PyData.canLay0]; exact lay_map _ names fun x hx => lay_dN N (ltn x hx)) (by have := depth_map (dN nm) 0 names (fun l _ => by simp [PyData.depth]); simp only [PyData.depth]; omega)
          · rw [e]
            have : PyData.eqv (.list (names.map (dN nm))) (.list (names.map (dN nm))) = true := by rw [PyData.eqv]; exact (eqvAll_map _ names names fun a ha b hb => eqv_dN N (ltn a ha) (ltn b hb)).mpr rfl
            rw [this]
/-! ### lets_forest -/
def spLets (nm : Nat → Str) (n : Nat) : Sp := Pur (ι := Tr × Tr × List Nat × List (List Nat)) (fun i vs H => ∃ v v' th, vs = [v, v', th, .bl false] ∧ TrV nm H v i.1 ∧ TrV nm H v' i.2.1 ∧ PrV (LotV nm) (TupV (LotV nm)) H th (i.2.2.1, i.2.2.2) ∧ Wf n i.1 ∧ Wf n i.2.1 ∧ PartsOk nm n (nmS i.1) i.2.2.1 i.2.2.2 ∧ LotsOk n i.1 i.2.2.1 i.2.2.2 ∧ LotsOk n i.2.1 i.2.2.1 i.2.2.2 ∧ Share i.1 i.2.1 i.2.2.1 i.2.2.2)
  (fun _ _ _ r => r = .bl true)
theorem sc_lets_forest : FnScope ["one", "other", "thing", "ringless", "top", "others"] ["one", "other", "thing", "ringless"] (defScope s_lets_forest) := ⟨rfl, rfl, rfl, by decide +kernel, rfl, by decide +kernel, by decide +kernel⟩
theorem ok_lets_forest (F : FnKD K "lets_forest" s_lets_forest [("ringless", .bl false)] f fd) (B : Bi mg) (N : Nm nm n) (c_are_parts : Cal P w K mg base 3 "are_parts" ["thing", "names"] (spAreParts nm n)) (c_names_in : Cal P w K mg base 11 "names_in" ["tree"] (spNamesIn nm n)) (c_share : Cal P w K mg base 25 "share" ["one", "other", "top", "others"] (spShare nm n)) :
    FnOk P w K mg base CX0 26 f fd ["one", "other", "thing", "ringless"] (spLets nm n) := by
  refine F.ok sc_lets_forest (fun vs H Q E h => ?_) (fun cdv A outer s H vs Q E hr h => ?_)
  · obtain ⟨t, ⟨v, v', u, rfl, _⟩, _⟩ := h; rfl
  · obtain ⟨⟨t, g, top, o⟩, ⟨v, v', th, rfl, hv, hv', hth, hw, hw', hP, hO, hO', hS⟩, q⟩ := h
    simp only at hv hv' hth hw hw' hP hO hO' hS
    refine ⟨_, PSs.nox (pss_cons (ps_if (pt_not (pt_val (pe_cal c_are_parts (hr.mono (by first | decide | omega)) (pa_cons (pv 2) (pa_cons (pe_cal c_names_in (hr.mono (by first | decide | omega)) (pa_cons (pv 0) pa_nil)) pa_nil))))) (pss_one (ps_ret (pe_bl))) pss_nil)
      (pss_cons (ps_asg (pv 2) (pg_tup rfl (pgs_cons (pg_name (i := 4) sc_lets_forest.nd rfl (by first | exact Or.inl rfl | exact Or.inr rfl)) (pgs_cons (pg_name (i := 5) sc_lets_forest.nd rfl (by first | exact Or.inl rfl | exact Or.inr rfl)) pgs_nil))))
      (pss_cons (ps_if (pt_not (pt_val (pe_cal c_share (hr.mono (by first | decide | omega)) (pa_cons (pv 0) (pa_cons (pv 1) (pa_cons (pv 4) (pa_cons (pv 5) pa_nil))))))) (pss_one (ps_ret (pe_bl))) pss_nil)
      (pss_one (ps_ret (pe_or (pe_not (pv 3)) (pe_one (pe_cmpR op_notN (pe_never) (pe_non) (by rfl))))))))), ?_⟩
    refine r_seq (r_if (gt_use (gt_not (b := true) (gt_gv (gv_call2 (gv_var (R := fun H r => PrV (LotV nm) (TupV (LotV nm)) H r (top, o)) rfl hth) (fun H1 s1 => gv_call1 (R := fun H r => LotV nm H r (nmS t)) (gv_var rfl (tm_tr.same s1 hv)) fun x H2 s2 rx => ⟨t, ⟨x, rfl, rx, hw⟩, fun r H3 s3 z => z⟩) fun x y H1 H2 s1 rx s2 ry => ⟨(top, o, nmS t), ⟨x, y, rfl, (tm_pr tm_lot (tm_tup tm_lot)).same s2 rx, ry, hP⟩, fun r H3 s3 z => z⟩))) fun H1 s1 => iteF (r_next ?_)))
    obtain ⟨p, x, y, rfl, hp, hx, hy⟩ := (tm_pr tm_lot (tm_tup tm_lot)).same s1 hth
    refine r_seq (r_asgP (r_var rfl ⟨p, [x, y], rfl, SqT.of hp, rfl, x, _, rfl, y, _, rfl, rfl, ?_⟩))
    refine r_seq (r_if (gt_use (gt_not (b := true) (gt_gv fun Q' q' => r_call4 (r_var rfl (r_var rfl (r_var rfl (r_var rfl ⟨(t, g, top, o), ⟨_, _, _, _, rfl, tm_tr.same s1 hv, tm_tr.same s1 hv', hx, hy, hw, hw', hO, hO'⟩, fun r H2 s2 e => q' _ _ s2 (by rw [e]; exact congrArg V.bl (decide_eq_true hS))⟩)))))) fun H2 s2 => iteF (r_next ?_)))
    exact r_ret (r_orV2 (r_notV2 (r_var rfl ⟨false, rfl, true, rfl, iteT (q _ _ (s1.trans s2) rfl)⟩)))
end
end Jw
end

section
set_option Elab.async false
set_option linter.all false
set_option maxRecDepth 100000
set_option maxHeartbeats 4000000
/-! longer_ones, looked_for, fewest_forest. -/
namespace Jw
open PySem PySem.Spec PyProof.Rows L2 Jt JH
abbrev FoV (nm : Nat → Str) : Hp → V → List Nat × List (List Nat) → Prop := PrV (LotV nm) (TupV (LotV nm))
theorem tm_fo {nm : Nat → Str} : TM (FoV nm) := tm_pr tm_lot (tm_tup tm_lot)
section
variable {P : Program} {w : World} {K : PySem.W.Frag} {mg : Str → Option Value} {base : Heap} {f : Addr} {fd : FuncData} {nm : Nat → Str} {n : Nat}
theorem gv_nm1 {te : TE} {σ : L2.St} {H : Hp} {x : Nat} (h : Gv te σ H fun _ v => v = sv nm x) : Gv (tTup (tCons te tNil)) σ H fun H1 v => LotV nm H1 v [x] :=
  gv_imp (gv_one (tm_nm (nm := nm)) h) fun r H1 s1 z => lot_tup.mpr z
theorem gv_catLot {ta tb : TE} {σ : L2.St} {H : Hp} {as bs : List Nat} (ha : Gv ta σ H fun H1 v => LotV nm H1 v as) (hb : ∀ H1, Same H H1 → Gv tb σ H1 fun H1 v => LotV nm H1 v bs) (hl : as.length + bs.length ≤ 100000) : Gv (tOp (rCatA K) ta tb) σ H fun H1 v => LotV nm H1 v (as ++ bs) :=
  gv_imp (gv_catA (tm_nm (nm := nm)) (gv_imp ha fun _ _ _ z => lot_tup.mp z) (fun H1 s1 => gv_imp (hb H1 s1) fun _ _ _ z => lot_tup.mp z) hl) fun r H1 s1 z => lot_tup.mpr z
/-! ### longer_ones -/
def spLonger (nm : Nat → Str) (n : Nat) : Sp := Pur (ι := List Nat × List (List Nat) × Nat × Nat) (fun i vs H => ∃ v u, vs = [v, u, sv nm i.2.2.1, .int i.2.2.2] ∧ LotV nm H v i.1 ∧ TupV (LotV nm) H u i.2.1 ∧ i.1.length ≤ 10 ∧ i.2.1.length ≤ 5 ∧ ∀ l ∈ i.2.1, l.length ≤ 10) (fun i H0 H r => LstN (FoV nm) H0 H r (longer i.1 i.2.1 i.2.2.1 i.2.2.2))
theorem sc_longer_ones : FnScope ["top", "others", "name", "most", "found", "k", "lot"] ["top", "others", "name", "most"] (defScope s_longer_ones) := ⟨rfl, rfl, rfl, by decide +kernel, rfl, by decide +kernel, by decide +kernel⟩
theorem set_cut {α : Type} (l : List α) (k : Nat) (x : α) (h : k < l.length) : l.take k ++ [x] ++ l.drop (k + 1) = l.set k x := by
  rw [List.set_eq_take_append_cons_drop, if_pos h, List.append_assoc]
  rfl
theorem ok_longer_ones (F : FnD K "longer_ones" s_longer_ones f fd) (B : Bi mg) : FnOk P w K mg base CX0 1 f fd ["top", "others", "name", "most"] (spLonger nm n) := by
  refine F.ok sc_longer_ones (fun vs H Q E h => ?_) (fun cdv A outer s H vs Q E hr h => ?_)
  · obtain ⟨t, ⟨v, u, rfl, _⟩, _⟩ := h; rfl
  · obtain ⟨⟨top, o, x, most⟩, ⟨v, u, rfl, hv, hu', ht, ho, hol⟩, q⟩ := h
    simp only at hv hu' ht ho hol
    refine ⟨_, PSs.nox (pss_cons (ps_set (i := 4) sc_longer_ones.nd rfl (by first | exact Or.inl rfl | exact Or.inr rfl) (pe_lst (pa_cons (pe_tup (pa_cons (pe_op (catA K) (pv 0) (pe_tup (pa_cons (pv 2) pa_nil))) (pa_cons (pv 1) pa_nil))) pa_nil)))
      (pss_cons (ps_for PassesOwn.never rfl (pi_enumT K (by rfl) B.enumerate (pa_cons (pv 1) pa_nil)) (pg_tup rfl (pgs_cons (pg_name (i := 5) sc_longer_ones.nd rfl (by first | exact Or.inl rfl | exact Or.inr rfl)) (pgs_cons (pg_name (i := 6) sc_longer_ones.nd rfl (by first | exact Or.inl rfl | exact Or.inr rfl)) pgs_nil))) (pss_one (ps_expr (pe_bm PySem.F.plainAttrs_list PySem.F.slot_list_append PySem.F.type_list_append mt_append (pv 4) (pa_cons (pe_tup (pa_cons (pv 0) (pa_cons (pe_op (catA K) (pe_op (catA K) (pe_slice (slT K) (pv 1) po_none (po_some (pv 5))) (pe_tup (pa_cons (pe_op (catA K) (pv 6) (pe_tup (pa_cons (pv 2) pa_nil))) pa_nil))) (pe_slice (slT K) (pv 1) (po_some (pe_op op_add (pv 5) (pe_int))) po_none)) pa_nil))) pa_nil)))))
      (pss_cons (ps_if (pt_cmpR op_lt (pe_callB (lenQ K) (by rfl) B.len boot_len (pa_cons (pv 1) pa_nil)) (pv 3) (by rfl)) (pss_one (ps_expr (pe_bm PySem.F.plainAttrs_list PySem.F.slot_list_append PySem.F.type_list_append mt_append (pv 4) (pa_cons (pe_tup (pa_cons (pv 0) (pa_cons (pe_op (catA K) (pv 1) (pe_tup (pa_cons (pe_tup (pa_cons (pv 2) pa_nil)) pa_nil))) pa_nil))) pa_nil)))) pss_nil)
      (pss_one (ps_ret (pv 4)))))), ?_⟩
    have big : (100000 : Nat) ≤ sizeLine := by decide
    refine r_seq (r_asg (r_lst1 (gv_use (gv_pair (tm_lot (nm := nm)) (tm_tup (tm_lot (nm := nm))) (gv_catLot (gv_var (R := fun H r => LotV nm H r top) rfl hv) (fun H1 s1 => gv_nm1 (gv_var (R := fun _ r => r = sv nm x) rfl rfl)) (by simp; omega)) (fun H1 s1 => gv_var (R := fun H r => TupV (LotV nm) H r o) rfl ((tm_tup tm_lot).same s1 hu'))) fun y H1 s1 ry => ⟨one_line, fun D hD => ?_⟩)))
    have hD0 : H D = none := s1.free hD
    obtain ⟨pu, us, rfl, hpu, ru⟩ := id hu'
    have hlen := ru.len
    refine r_seq (r_var rfl ⟨pu, us, rfl, SqT.of (((s1.trans (same_new hD _))) _ _ hpu), for_it (walk_enumT (K := K) (a := pu) (xs := us)) (fun i σ H' => Same H H' ∧ (∃ a b, σ = [some v, some (.ref pu), some (sv nm x), some (.int most), some (.ref D), a, b]) ∧ ∃ ys, H' D = some (.lst ys) ∧ P2 (FoV nm H') ys ((longer top o x 0).take (i + 1))) ?_ ?_ ?_ ?_⟩)
    · refine ⟨s1.trans (same_new hD _), ⟨none, none, rfl⟩, [y], upd_same, ?_⟩
      exact .cons (tm_fo.same (same_new hD _) ry) .nil
    · rintro i σ H' _ ⟨s2, _, _⟩
      exact SqT.of (s2 _ _ hpu)
    · rintro i x0 σ H2 H3 hi ⟨s2, ⟨a, b, rfl⟩, ys, hys, rys⟩ ⟨T, kx, lx, rfl, hT, rfl, e1, e2⟩
      cases e1
      obtain ⟨l, hl, rl⟩ := ru.get e2
      have hio : i < o.length := by omega
      have s3 : Same H (upd H2 T (.tup [.int (i : Nat), lx])) := s2.trans (same_new hT _)
      have hlm : l ∈ o := List.mem_of_getElem? hl
      have hne : T ≠ D := fun z => by rw [z, hys] at hT; cases hT
      refine ⟨T, [.int (i : Nat), lx], rfl, SqT.of upd_same, rfl, _, _, rfl, _, _, rfl, rfl, ?_⟩
      have hys' : upd H2 T (.tup [.int (i : Nat), lx]) D = some (.lst ys) := by rw [upd_ne (Ne.symm hne)]; exact hys
      have ylen := rys.len
      have hyl : ys.length < sizeLine := by
        have : ((longer top o x 0).take (i + 1)).length ≤ i + 1 := by rw [List.length_take]; omega
        omega
      refine r_append (p := D) rfl hys' hyl (gv_pair (tm_lot (nm := nm)) (tm_tup (tm_lot (nm := nm))) (gv_var (R := fun H r => LotV nm H r top) rfl (tm_lot.same s3 hv)) fun H4 s4 => gv_catA (as := o.take i ++ [l ++ [x]]) (bs := o.drop (i + 1)) (tm_lot (nm := nm)) (gv_catA (as := o.take i) (bs := [l ++ [x]]) (tm_lot (nm := nm)) (gv_take (k := i) (tm_lot (nm := nm)) (gv_var (R := fun H r => TupV (LotV nm) H r o) rfl ((tm_tup tm_lot).same (s3.trans s4) hu')) (fun H5 s5 => gv_var rfl rfl) hio) (fun H5 s5 => gv_one (tm_lot (nm := nm)) (gv_catLot (gv_var (R := fun H r => LotV nm H r l) rfl (tm_lot.same ((s3.trans s4).trans s5) rl)) (fun H1 s1 => gv_nm1 (gv_var (R := fun _ r => r = sv nm x) rfl rfl)) (by have := hol l hlm; simp; omega))) (by rw [List.length_take]; simp; omega)) (fun H5 s5 => gv_drop (k := i + 1) (tm_lot (nm := nm)) (gv_var (R := fun H r => TupV (LotV nm) H r o) rfl ((tm_tup tm_lot).same ((s3.trans s4).trans s5) hu')) (fun H6 s6 => fun Q' q' => r_op (r_var rfl (r_c ⟨_, _, rfl, rfl, q' _ _ (Same.refl _) rfl⟩))) (by omega) (fun z => by rw [z] at hio; exact absurd hio (by simp))) (by simp; omega)) fun y2 H4 s4 ry2 => ?_
      have hD4 : H4 D = some (.lst ys) := s4 _ _ hys'
      refine ⟨same_mut (s3.trans s4) hD0, ⟨_, _, rfl⟩, ys ++ [y2], upd_same, ?_⟩
      rw [set_cut o i (l ++ [x]) hio] at ry2
      have tk : (longer top o x 0).take (i + 1 + 1) = (longer top o x 0).take (i + 1) ++ [(top, o.set i (l ++ [x]))] := by
        rw [List.take_add_one]
        congr 1
        have : (longer top o x 0)[i + 1]? = some (top, o.set i (o.getD i [] ++ [x])) := by
          simp only [longer, List.getElem?_cons_succ, Nat.not_lt_zero, if_false, List.append_nil, List.getElem?_map, List.getElem?_range hio, Option.map_some]
        rw [this]
        have : o.getD i [] = l := by rw [List.getD_eq_getElem?_getD, hl]; rfl
        rw [this]; rfl
      rw [tk]
      exact (rys.imp fun _ _ k => tm_fo _ _ _ _ (((Same.tups (same_new hT _)).trans (Same.tups s4)).trans (tups_lst hD4)) k).app (.cons (tm_fo _ _ _ _ (tups_lst hD4) ry2) .nil)
    · rintro σ H2 ⟨s2, ⟨a, b, rfl⟩, ys, hys, rys⟩
      have l0 : (longer top o x 0).length = o.length + 1 := by simp [longer]
      rw [List.take_of_length_le (by omega)] at rys
      have hgen : longer top o x most = longer top o x 0 ++ if o.length < most then [(top, o ++ [[x]])] else [] := by simp [longer]
      refine r_seq (r_if (gt_use (b := decide (o.length < most)) (gt_test fun Q' q' => r_op (gv_use (gv_len (n := o.length) (gv_var rfl ⟨pu, us, rfl, .inr (SqT.of (s2 _ _ hpu)), hlen⟩)) fun z H3 s3 e => r_var rfl ⟨_, _, e, rfl, q' _ _ s3 (congrArg V.bl (decide_eq_decide.mpr Int.ofNat_lt))⟩)) fun H3 s3 => ?_))
      have hys3 := s3 _ _ hys
      have ylen := rys.len
      by_cases hlt : o.length < most
      · rw [decide_eq_true hlt]
        refine iteT (r_append (p := D) rfl hys3 (by omega) (gv_pair (tm_lot (nm := nm)) (tm_tup (tm_lot (nm := nm))) (gv_var (R := fun H r => LotV nm H r top) rfl (tm_lot.same (s2.trans s3) hv)) fun H4 s4 => gv_catA (as := o) (bs := [[x]]) (tm_lot (nm := nm)) (gv_var (R := fun H r => TupV (LotV nm) H r o) rfl ((tm_tup tm_lot).same ((s2.trans s3).trans s4) hu')) (fun H5 s5 => gv_one (tm_lot (nm := nm)) (gv_nm1 (gv_var (R := fun _ r => r = sv nm x) rfl rfl))) (by simp; omega)) fun y2 H4 s4 ry2 => ?_)
        have hD4 : H4 D = some (.lst ys) := s4 _ _ hys3
        refine r_ret (r_var rfl (q _ _ (same_mut ((s2.trans s3).trans s4) hD0) ⟨D, _, rfl, hD0, upd_same, ?_⟩))
        show P2 (FoV nm (upd H4 D (.lst (ys ++ [y2])))) (ys ++ [y2]) (longer top o x most)
        rw [hgen, if_pos hlt]
        exact (rys.imp fun _ _ k => tm_fo _ _ _ _ ((Same.tups (s3.trans s4)).trans (tups_lst hD4)) k).app (.cons (tm_fo _ _ _ _ (tups_lst hD4) ry2) .nil)
      · rw [decide_eq_false hlt]
        refine iteF (r_next (r_ret (r_var rfl (q _ _ (s2.trans s3) ⟨D, _, rfl, hD0, hys3, ?_⟩))))
        show P2 (FoV nm H3) ys (longer top o x most)
        rw [hgen, if_neg hlt, List.append_nil]
        exact rys.imp fun _ _ k => tm_fo.same s3 k
/-! ### looked_for -/
theorem sinv_lots {T : Tr} {most : Nat} {ns top : List Nat} {o : List (List Nat)} (h : SInv T most ns top o) (w : Wf n T) (N : Nm nm n) : LotsOk n T top o := by
  obtain ⟨h1, h2, h3⟩ := h.few5 w
  have := N.few
  refine ⟨⟨by omega, fun x hx => h.lt w x (List.mem_append_left _ hx)⟩, by omega, fun l hl => ⟨h.ne l hl, by have := h3 l hl; omega, fun x hx => ((h.cov x).mp (.inr ⟨l, hl, hx⟩)).1⟩⟩
structure LkPre (n : Nat) (T G : Tr) (most : Nat) (ns top : List Nat) (o : List (List Nat)) : Prop where
  w : Wf n T
  w' : Wf n G
  same : ∀ x, x ∈ T.nm ↔ x ∈ G.nm
  inv : SInv T most ns top o
  nr : ns.Pairwise (· < ·)
  nm : ∀ x ∈ ns, x ∈ T.nm
  lt : ∀ x ∈ T.nm, x ∉ ns → ∀ y ∈ ns, x < y
theorem lots_other {T G : Tr} {top : List Nat} {o : List (List Nat)} (h : LotsOk n T top o) (same : ∀ x, x ∈ T.nm ↔ x ∈ G.nm) : LotsOk n G top o := ⟨h.tl, h.ol, fun l hl => ⟨(h.each l hl).1, (h.each l hl).2.1, fun x hx => (same x).mp ((h.each l hl).2.2 x hx)⟩⟩
theorem LkPre.next {T G : Tr} {most x : Nat} {ns top : List Nat} {o : List (List Nat)} (h : LkPre n T G most (x :: ns) top o) : ∀ st ∈ longer top o x most, LkPre n T G most ns st.1 st.2 := fun st hst => by
  have hr := List.pairwise_cons.mp h.nr
  have hx : x ∉ ns := fun z => Nat.lt_irrefl _ (hr.1 x z)
  refine ⟨h.w, h.w', h.same, h.inv.longer (h.nm x (by simp)) hx (fun y hy hn => h.lt y hy hn x (by simp)) st hst, hr.2, fun y hy => h.nm y (by simp [hy]), fun y hy hn z hz => ?_⟩
  by_cases e : y = x
  · subst e; exact hr.1 z hz
  · exact h.lt y hy (by simp [e, hn]) z (by simp [hz])
def LkV (nm : Nat → Str) (H : Hp) (r : V) : Option Fst → Prop
  | none => r = .non
  | some st => ∃ o', o'.Perm st.2 ∧ Srt (dL nm) o' ∧ FoV nm H r (st.1, o')
theorem lkv_same {H H' : Hp} {r : V} {x : Option Fst} (s : Same H H') (h : LkV nm H r x) : LkV nm H' r x := by
  cases x with
  | none => exact h
  | some st => obtain ⟨o', a, b, c⟩ := h; exact ⟨o', a, b, tm_fo.same s c⟩
def spLooked (nm : Nat → Str) (n h : Nat) : Sp := Pur (ι := Tr × Tr × List Nat × List Nat × List (List Nat) × Nat) (fun i vs H => ∃ v v' u b, vs = [v, v', u, b, .int i.2.2.2.2.2, .bl false] ∧ TrV nm H v i.1 ∧ TrV nm H v' i.2.1 ∧ LstV (NmV nm) H u i.2.2.1 ∧ FoV nm H b (i.2.2.2.1, i.2.2.2.2.1) ∧ i.2.2.1.length < h ∧ LkPre n i.1 i.2.1 i.2.2.2.2.2 i.2.2.1 i.2.2.2.1 i.2.2.2.2.1)
  (fun i _ H r => LkV nm H r (looked i.1 i.2.1 i.2.2.2.2.2 i.2.2.1 i.2.2.2.1 i.2.2.2.2.1))
theorem sc_looked_for : FnScope ["one", "other", "names", "begun", "most", "ringless", "top", "others", "longer", "found"] ["one", "other", "names", "begun", "most", "ringless"] (defScope s_looked_for) := ⟨rfl, rfl, rfl, by decide +kernel, rfl, by decide +kernel, by decide +kernel⟩
theorem st_looked_for (F : FnKD K "looked_for" s_looked_for [] f fd) (B : Bi mg) (N : Nm nm n) (c_longer_ones : Cal P w K mg base 1 "longer_ones" ["top", "others", "name", "most"] (spLonger nm n)) (c_share : Cal P w K mg base 25 "share" ["one", "other", "top", "others"] (spShare nm n)) {k h : Nat} (hk : 25 ≤ k) (ih : CalK P w K mg base k "looked_for" ["one", "other", "names", "begun", "most", "ringless"] (spLooked nm n h) 5 ["ringless"]) :
    FnOk P w K mg base CX0 (k + 1) f fd ["one", "other", "names", "begun", "most", "ringless"] (spLooked nm n (h + 1)) := by
  refine F.ok sc_looked_for (fun vs H Q E h => ?_) (fun cdv A outer s H vs Q E hr h => ?_)
  · obtain ⟨t, ⟨v, v', u, b, rfl, _⟩, _⟩ := h; rfl
  · obtain ⟨⟨T, G, ns, top, o, most⟩, ⟨v, v', u, b, rfl, hv, hv', hns, hb, hlen, hpre⟩, q⟩ := h
    simp only at hv hv' hns hb hlen hpre
    have hu := hr.units
    refine ⟨_, PSs.nox (pss_cons (ps_asg (pv 3) (pg_tup rfl (pgs_cons (pg_name (i := 6) sc_looked_for.nd rfl (by first | exact Or.inl rfl | exact Or.inr rfl)) (pgs_cons (pg_name (i := 7) sc_looked_for.nd rfl (by first | exact Or.inl rfl | exact Or.inr rfl)) pgs_nil))))
      (pss_cons (ps_if (pt_cmpR (eqD K hu) (pv 2) (pe_lst pa_nil) (by rfl)) (pss_one (ps_ret (pe_ifExp ((pw_and (pt_val (pv 5)) (pw_and1 (pt_cmpR op_isN (pe_never) (pe_non) (by rfl)))).pt) (pe_non) (pe_tup (pa_cons (pv 6) (pa_cons (pe_callTy (tupQ K) (by rfl) B.tuple boot_tuple (pa_cons (pe_callB (sortQ K hu) (by rfl) B.sorted boot_sorted (pa_cons (pv 7) pa_nil)) pa_nil)) pa_nil)))))) pss_nil)
      (pss_cons (ps_for PassesOwn.never rfl (piL K (pe_cal c_longer_ones (hr.mono (by first | decide | omega)) (pa_cons (pv 6) (pa_cons (pv 7) (pa_cons (pe_ix (ixL K) (pv 2) (pe_int) (fun _ _ => rfl)) (pa_cons (pv 4) pa_nil)))))) (pg_name (i := 8) sc_looked_for.nd rfl (by first | exact Or.inl rfl | exact Or.inr rfl)) (pss_one (ps_if (pt_val (pe_cal c_share (hr.mono (by first | decide | omega)) (pa_cons (pv 0) (pa_cons (pv 1) (pa_cons (pe_ix (ixT K) (pv 8) (pe_int) (fun _ _ => rfl)) (pa_cons (pe_ix (ixT K) (pv 8) (pe_int) (fun _ _ => rfl)) pa_nil)))))) (pss_cons (ps_set (i := 9) sc_looked_for.nd rfl (by first | exact Or.inl rfl | exact Or.inr rfl) (pe_calK ih (hr.mono (by first | decide | omega)) (pa_cons (pv 0) (pa_cons (pv 1) (pa_cons (pe_slice (slL K) (pv 2) (po_some (pe_int)) po_none) (pa_cons (pv 8) (pa_cons (pv 4) pa_nil))))) (pk_cons (pv 5) pk_nil)))
      (pss_one (ps_if (pt_cmpR op_notN (pv 9) (pe_non) (by rfl)) (pss_one (ps_ret (pv 9))) pss_nil))) pss_nil)))
      (pss_one (ps_ret (pe_non)))))), ?_⟩
    have hlo := sinv_lots hpre.inv hpre.w N
    obtain ⟨pb, x, y, rfl, hpb, hx, hy⟩ := id hb
    simp only at hx hy
    have hltn : ∀ z ∈ ns, z < n := fun z hz => hpre.w.lt z (hpre.nm z hz)
    have shN : SeqAt.shaped (.list (ns.map (dN nm))) = true := shaped_of (by simp only [PyData.canLay0]; exact lay_map _ ns fun z hz => lay_dN N (hltn z hz)) (by have := depth_map (dN nm) 0 ns (fun l _ => by simp [PyData.depth]); simp only [PyData.depth]; omega)
    refine r_seq (r_asgP (r_var rfl ⟨pb, [x, y], rfl, SqT.of hpb, rfl, x, _, rfl, y, _, rfl, rfl, ?_⟩))
    refine r_seq (r_if (gt_use (b := decide (ns = [])) (gt_test (gv_imp (gv_eqD (da := .list (ns.map (dN nm))) (db := .list []) (gv_var (R := fun H v => LstV (NmV nm) H v ns) rfl hns) (fun H2 s2 => gv_emptyL (α := Nat) (RA := NmV nm)) (fun x y H2 H3 s2 rx s3 ⟨p, ys, ey, hy, ry⟩ => ⟨let ⟨p5, zs5, e5, h5, r5⟩ := rx; by rw [e5]; exact .lst (SqL.of (s3 _ _ h5)) (dp_all (r5.imp fun _ _ k => tm_nm.same s3 k) fun _ _ => dp_nm), by rw [ey]; cases ry; exact .lst (SqL.of hy) .nil⟩) shN sh_nilL) fun r H2 _ e => ?_)) fun H1 s1 => ?_))
    · rw [e]
      cases ns with
      | nil => simp [PyData.eqv, PyData.eqvAll]
      | cons a l => simp [PyData.eqv, PyData.eqvAll]
    · cases ns with
      | nil =>
        rw [decide_eq_true rfl]
        refine iteT (r_ret (r_ifE (gt_use (b := false) (gt_and (b := false) (c := false) (gt_gv (gv_var (R := fun _ r => r = .bl false) rfl rfl)) (fun z => by cases z) fun _ => rfl) fun H2 s2 => iteF ?_)))
        refine gv_use (gv_pairG (Rr := fun H1 v => ∃ p x y, v = .ref p ∧ H1 p = some (.tup [x, y]) ∧ LotV nm H1 x top ∧ ∃ as, (as.Perm o ∧ Srt (dL nm) as) ∧ TupV (LotV nm) H1 y as) (gv_var (R := fun H r => LotV nm H r top) rfl (tm_lot.same (s1.trans s2) hx)) (fun H3 s3 => gv_imp (gv_tupOf (K := K) (fun bs => bs.Perm o ∧ Srt (dL nm) bs) (tm_lot (nm := nm)) (gv_imp (gv_sorted (d := dL nm) (fun as => as = o) (tm_lot (nm := nm)) (gv_var rfl ⟨o, rfl, ((tm_tup tm_lot).same ((s1.trans s2).trans s3) hy).sq.q⟩) (fun as v a H1 _ _ r => dp_lot r) (fun as _ => alike_dL as) (fun as e => sortable_dL fun l hl => (hlo.each l (e ▸ hl)).1) (fun as _ a _ => Nat.le_trans (depth_dL a) (by omega))) fun r H4 s4 ⟨as, bs, e, pm, sr, hb⟩ => ⟨bs, ⟨by rw [← e]; exact pm, sr⟩, hb.l⟩)) fun r H4 s4 z => z) fun x3 y3 H3 H4 p3 s3 rx3 s4 ⟨as, pas, ry3⟩ hp3 => ⟨p3, x3, y3, rfl, upd_same, tm_lot.same (s4.trans (same_new hp3 _)) rx3, as, pas, (tm_tup tm_lot).same (same_new hp3 _) ry3⟩) fun r H3 s3 ⟨p3, x3, y3, e3, h3, rx3, as, ⟨pm, sr⟩, ry3⟩ => q _ _ ((s1.trans s2).trans s3) ?_
        exact ⟨as, pm, sr, p3, x3, y3, e3, h3, rx3, ry3⟩
      | cons z ns =>
        rw [decide_eq_false (by simp)]
        refine iteF (r_next ?_)
        have nx := hpre.next
        have hal : ∀ l ∈ o, l.length ≤ 10 := fun l hl => (hlo.each l hl).2.1
        obtain ⟨pn, vs, rfl, hpn, rn⟩ := id hns
        cases rn with
        | cons rz rns =>
        rename_i vz vns
        refine r_seq (r_forL (gv_use (R := fun H2 r => LstN (FoV nm) H1 H2 r (longer top o z most)) (fun Q' q' => r_call4 (r_var rfl (r_var rfl (r_op (r_var rfl (r_c ⟨pn, _, _, vz, rfl, rfl, SqL.of (s1 _ _ hpn), atI_nat (j := 0) rfl, r_var rfl ⟨(top, o, z, most), ⟨x, y, by rw [show vz = sv nm z from rz], tm_lot.same s1 hx, (tm_tup tm_lot).same s1 hy, hlo.tl.1, hlo.ol, hal⟩, q'⟩⟩)))))) fun lv H2 s2 ⟨pl, xs, el, fl, hpl, rl⟩ => ⟨pl, el, ⟨xs, SqL.of hpl⟩, ?_⟩))
        have hlx := rl.len
        refine for_it (walk_list (K := K) (a := pl) (xs := xs)) (fun i σ H' => Same H2 H' ∧ (∃ a b, σ = [some v, some v', some (.ref pn), some (.ref pb), some (.int most), some (.bl false), some x, some y, a, b]) ∧ ∀ st ∈ (longer top o z most).take i, (if Share T G st.1 st.2 then looked T G most ns st.1 st.2 else none) = none) ⟨Same.refl _, ⟨none, none, rfl⟩, fun st h => by simp at h⟩ (fun i σ H' _ p => p.1.seq (SqL.of hpl)) ?_ ?_
        · rintro i xl σ H3 H4 hi ⟨s3, ⟨a, b, rfl⟩, hno⟩ ⟨rfl, hxi⟩
          obtain ⟨st, hst, rst⟩ := rl.get hxi
          have hstm : st ∈ longer top o z most := List.mem_of_getElem? hst
          have hp2 := nx st hstm
          have hl2 := sinv_lots hp2.inv hp2.w N
          have s04 : Same H H4 := (s1.trans s2).trans s3
          have rst4 := tm_fo.same s3 rst
          obtain ⟨pp, px, py, rfl, hpp, hpx, hpy⟩ := id rst4
          have tk : (longer top o z most).take (i + 1) = (longer top o z most).take i ++ [st] := by rw [List.take_add_one, hst]; rfl
          refine r_if (gt_use (b := decide (Share T G st.1 st.2)) (gt_gv fun Q' q' => r_call4 (r_var rfl (r_var rfl (r_op (r_var rfl (r_c ⟨pp, _, _, px, rfl, rfl, SqT.of hpp, atI_nat (j := 0) rfl, r_op (r_var rfl (r_c ⟨pp, _, _, py, rfl, rfl, SqT.of hpp, atI_nat (j := 1) rfl, (T, G, st.1, st.2), ⟨v, v', px, py, rfl, tm_tr.same s04 hv, tm_tr.same s04 hv', hpx, hpy, hpre.w, hpre.w', hl2, lots_other hl2 hpre.same⟩, q'⟩))⟩)))))) fun H5 s5 => ?_)
          by_cases hsh : Share T G st.1 st.2
          · rw [decide_eq_true hsh]
            have s05 := s04.trans s5
            refine iteT (r_seq (r_asg (r_callK51 (r_var rfl (r_var rfl (gv_use (gv_dropL (K := K) (k := 1) (tm_nm (nm := nm)) (gv_var (R := fun H r => LstV (NmV nm) H r (z :: ns)) rfl (hns.same tm_nm s05)) (fun H6 s6 => gv_c rfl)) fun un H6 s6 hun => r_var rfl (r_var rfl (r_var rfl ⟨rfl, rfl, (T, G, ns, st.1, st.2, most), ⟨v, v', un, _, rfl, tm_tr.same (s05.trans s6) hv, tm_tr.same (s05.trans s6) hv', hun.l, tm_fo.same (s5.trans s6) rst4, by have : (z :: ns).length < h + 1 := hlen; simp only [List.length_cons] at this; show ns.length < h; omega, hp2⟩, fun r H7 s7 hr7 => ?_⟩))))))))
            dsimp only
            refine r_if (gt_use (b := !decide (r = .non)) (gt_test ?_) fun H8 s8 => ?_)
            · intro Q' q'
              exact r_op (r_var rfl (r_c ⟨rfl, q' _ _ (Same.refl _) rfl⟩))
            have s08 : Same H H8 := ((s05.trans s6).trans s7).trans s8
            cases hlk : looked T G most ns st.1 st.2 with
            | none =>
              have er : r = .non := by
                have : LkV nm H7 r (looked T G most ns st.1 st.2) := hr7
                rw [hlk] at this; exact this
              subst er
              refine iteF (r_next ⟨((((s3.trans s5).trans s6).trans s7).trans s8), ⟨_, _, rfl⟩, ?_⟩)
              rw [tk]
              intro st' hst'
              rcases List.mem_append.mp hst' with h1 | h1
              · exact hno st' h1
              · rw [List.mem_singleton.mp h1, if_pos hsh]; exact hlk
            | some fst =>
              have hr7' : LkV nm H7 r (some fst) := by
                have : LkV nm H7 r (looked T G most ns st.1 st.2) := hr7
                rw [hlk] at this; exact this
              have er : decide (r = .non) = false := by
                obtain ⟨o', _, _, p8, _, _, e8, _⟩ := hr7'
                rw [e8]; exact decide_eq_false (by simp)
              rw [er]
              refine iteT (r_ret (r_var rfl (q _ _ s08 ?_)))
              have : looked T G most (z :: ns) top o = some fst := by
                unfold looked
                have e0 : longer top o z most = (longer top o z most).take i ++ st :: (longer top o z most).drop (i + 1) := by
                  have h1 := (List.take_append_drop (i + 1) (longer top o z most)).symm
                  rw [tk, List.append_assoc] at h1
                  exact h1
                rw [e0, List.findSome?_append]
                have e1 : ((longer top o z most).take i).findSome? (fun st => if Share T G st.1 st.2 then looked T G most ns st.1 st.2 else none) = none := List.findSome?_eq_none_iff.mpr hno
                rw [e1, List.findSome?_cons, if_pos hsh, hlk]
                rfl
              show LkV nm H8 r (looked T G most (z :: ns) top o)
              rw [this]
              exact lkv_same s8 hr7'
          · rw [decide_eq_false hsh]
            refine iteF (r_next ⟨s3.trans s5, ⟨_, _, rfl⟩, ?_⟩)
            rw [tk]
            intro st' hst'
            rcases List.mem_append.mp hst' with h1 | h1
            · exact hno st' h1
            · rw [List.mem_singleton.mp h1, if_neg hsh]
        · rintro σ H3 ⟨s3, _, hno⟩
          rw [List.take_of_length_le (by omega)] at hno
          dsimp only
          refine r_ret ?_
          refine r_c (q _ _ ((s1.trans s2).trans s3) ?_)
          have : looked T G most (z :: ns) top o = none := by
            unfold looked
            exact List.findSome?_eq_none_iff.mpr hno
          show LkV nm H3 .non (looked T G most (z :: ns) top o)
          rw [this]; rfl
theorem ok_looked_for (F : FnKD K "looked_for" s_looked_for [] f fd) (B : Bi mg) (N : Nm nm n) (c_longer_ones : Cal P w K mg base 1 "longer_ones" ["top", "others", "name", "most"] (spLonger nm n)) (c_share : Cal P w K mg base 25 "share" ["one", "other", "top", "others"] (spShare nm n)) (m : mg "looked_for" = some (.ref f)) :
    ∀ h, FnOk P w K mg base CX0 (h + 25) f fd ["one", "other", "names", "begun", "most", "ringless"] (spLooked nm n h)
  | 0 => ⟨fun vs H Q E ⟨t, ⟨v, v', u, b, e, _⟩, _⟩ => by rw [e]; rfl, fun _ _ _ _ _ _ _ _ _ _ _ _ _ ⟨t, ⟨_, _, _, _, _, _, _, _, _, h, _⟩, _⟩ => absurd h (Nat.not_lt_zero _)⟩
  | h + 1 => st_looked_for F B N c_longer_ones c_share (by omega) (calK_mk F (ok_looked_for F B N c_longer_ones c_share m h) m 5 ["ringless"] (bk51 fun _ _ _ _ _ _ _ _ _ _ _ _ => by first | rfl | kernel_rfl))
/-! ### fewest_forest -/
theorem parts_of {T : Tr} {most : Nat} {top : List Nat} {o o' : List (List Nat)} (h : SInv T most [] top o) (w : Wf n T) (N : Nm nm n) (p : o'.Perm o) (sr : Srt (dL nm) o') : PartsOk nm n (nmS T) top o' := by
  have h5 := h.few5 w
  have := N.few
  refine ⟨h.srt.1, fun l hl => ⟨h.ne l (p.mem_iff.mp hl), h.srt.2 l (p.mem_iff.mp hl)⟩, fun l hl x hx => ?_, sr, ((p.flatten).append_left top).nodup_iff.mpr h.nd, fun x => ?_, srt_nmS T, by rw [p.length_eq]; omega⟩
  · refine h.lt w x ?_
    rcases List.mem_cons.mp hl with rfl | hl
    · exact List.mem_append_left _ hx
    · exact List.mem_append_right _ (List.mem_flatten.mpr ⟨l, p.mem_iff.mp hl, hx⟩)
  · rw [mem_nmS, List.mem_append]
    have hc := h.cov x
    simp only [List.not_mem_nil, not_false_eq_true, and_true] at hc
    rw [← hc]
    refine or_congr Iff.rfl ?_
    rw [(p.flatten).mem_iff, List.mem_flatten]
def spFewest (nm : Nat → Str) (n : Nat) : Sp := Pur (ι := Tr × Tr) (fun i vs H => ∃ v v', vs = [v, v', .bl false] ∧ TrV nm H v i.1 ∧ TrV nm H v' i.2 ∧ Wf n i.1 ∧ Wf n i.2 ∧ ∀ x, x ∈ i.1.nm ↔ x ∈ i.2.nm)
  (fun i _ H r => ∃ m top o, FoV nm H r (top, o) ∧ Fewest i.1 i.2 m ∧ o.length = m ∧ Fo i.1 i.2 top o ∧ PartsOk nm n (nmS i.1) top o)
theorem sc_fewest_forest : FnScope ["one", "other", "ringless", "names", "most", "found"] ["one", "other", "ringless"] (defScope s_fewest_forest) := ⟨rfl, rfl, rfl, by decide +kernel, rfl, by decide +kernel, by decide +kernel⟩
theorem ok_fewest_forest (F : FnKD K "fewest_forest" s_fewest_forest [("ringless", .bl false)] f fd) (B : Bi mg) (N : Nm nm n) (c_names_in : Cal P w K mg base 11 "names_in" ["tree"] (spNamesIn nm n)) (k_looked_for : CalK P w K mg base 31 "looked_for" ["one", "other", "names", "begun", "most", "ringless"] (spLooked nm n 6) 5 ["ringless"]) :
    FnOk P w K mg base CX0 32 f fd ["one", "other", "ringless"] (spFewest nm n) := by
  refine F.ok sc_fewest_forest (fun vs H Q E h => ?_) (fun cdv A outer s H vs Q E hr h => ?_)
  · obtain ⟨t, ⟨v, v', rfl, _⟩, _⟩ := h; rfl
  · obtain ⟨⟨T, G⟩, ⟨v, v', rfl, hv, hv', hw, hw', same⟩, q⟩ := h
    simp only at hv hv' hw hw' same
    refine ⟨_, PSs.nox (pss_cons (ps_set (i := 3) sc_fewest_forest.nd rfl (by first | exact Or.inl rfl | exact Or.inr rfl) (pe_callTy (listQ K) (by rfl) B.list boot_list (pa_cons (pe_cal c_names_in (hr.mono (by first | decide | omega)) (pa_cons (pv 0) pa_nil)) pa_nil)))
      (pss_cons (ps_set (i := 4) sc_fewest_forest.nd rfl (by first | exact Or.inl rfl | exact Or.inr rfl) (pe_int))
      (pss_one (ps_while PassesOwn.never (pt_val (pe_bl)) (pss_cons (ps_set (i := 5) sc_fewest_forest.nd rfl (by first | exact Or.inl rfl | exact Or.inr rfl) (pe_calK k_looked_for (hr.mono (by first | decide | omega)) (pa_cons (pv 0) (pa_cons (pv 1) (pa_cons (pv 3) (pa_cons (pe_tup (pa_cons (pe_tup pa_nil) (pa_cons (pe_tup pa_nil) pa_nil))) (pa_cons (pv 4) pa_nil))))) (pk_cons (pv 2) pk_nil)))
      (pss_cons (ps_if (pt_cmpR op_notN (pv 5) (pe_non) (by rfl)) (pss_one (ps_ret (pv 5))) pss_nil)
      (pss_one (ps_aug (i := 4) sc_fewest_forest.nd rfl (by first | exact Or.inl rfl | exact Or.inr rfl) (pe_int) ip_add)))))))), ?_⟩
    have hfw := N.few
    have hls := hw.lenS
    refine r_seq (r_asg (gv_use (gv_listOf (K := K) (fun as => as = nmS T) (tm_nm (nm := nm)) (gv_call1 (gv_var rfl hv) fun x H1 s1 rx => ⟨T, ⟨x, rfl, rx, hw⟩, fun r H2 s2 z => ⟨_, rfl, (lot_tup.mp z).sq.q⟩⟩)) fun nv H1 s1 ⟨_, e, hn⟩ => ?_))
    subst e
    refine r_seq (r_asg (r_c ?_))
    refine ⟨fun mm σ H' => Same H1 H' ∧ ∃ (m : Nat) (a : Option V), mm = T.nm.length + 1 - m ∧ m ≤ T.nm.length ∧ (∀ m' < m, looked T G m' (nmS T) [] [] = none) ∧ σ = [some v, some v', some (.bl false), some nv, some (.int m), a], ⟨_, Same.refl _, 0, none, rfl, Nat.zero_le _, fun _ h => absurd h (Nat.not_lt_zero _), rfl⟩, ?_⟩
    rintro mm σ H2 ⟨s2, m, a, rfl, hm, hno, rfl⟩
    refine gt_use (b := true) (gt_gv (gv_c rfl)) fun H3 s3 => iteT ⟨fun σ' H' => Same H1 H' ∧ looked T G m (nmS T) [] [] = none ∧ ∃ a, σ' = [some v, some v', some (.bl false), some nv, some (.int (m + 1 : Nat)), a], ?_, ?_⟩
    · rintro _ H4 ⟨s4, hl, a', rfl⟩
      have hm1 : m < T.nm.length := by
        rcases Nat.lt_or_ge m T.nm.length with h | h
        · exact h
        · exact absurd hl (looked_finds hw.ok hw'.ok (srt_nodup (srt_nmS T)) (fun x => mem_nmS) (fo_ex hw.ok hw'.ok same) (by simpa using h))
      refine ⟨T.nm.length + 1 - (m + 1), by omega, s4, m + 1, a', rfl, hm1, fun m' hm' => ?_, rfl⟩
      rcases Nat.lt_or_ge m' m with h | h
      · exact hno m' h
      · have : m' = m := by omega
        rw [this]; exact hl
    · have s03 := (s1.trans s2).trans s3
      have hp : LkPre n T G m (nmS T) [] [] := ⟨hw, hw', same, sinv_start (fun x => mem_nmS), srt_nmS T, fun x hx => mem_nmS.mp hx, fun x hx hn => absurd (mem_nmS.mpr hx) hn⟩
      refine r_seq (r_asg (r_callK51 (r_var rfl (r_var rfl (r_var rfl (gv_use (gv_pair (tm_lot (nm := nm)) (tm_tup (tm_lot (nm := nm))) (gv_imp (gv_unit (α := Nat) (RA := NmV nm)) fun r H4 s4 z => lot_tup.mpr z) fun H4 s4 => gv_unit (α := List Nat) (RA := LotV nm)) fun bv H4 s4 hb => r_var rfl (r_var rfl ⟨rfl, rfl, (T, G, nmS T, [], [], m), ⟨v, v', nv, bv, rfl, tm_tr.same (s03.trans s4) hv, tm_tr.same (s03.trans s4) hv', hn.l.same tm_nm ((s2.trans s3).trans s4), hb, by show (nmS T).length < 6; omega, hp⟩, fun r H5 s5 hr5 => ?_⟩)))))))
      dsimp only
      refine r_seq (r_if (gt_use (b := !decide (r = .non)) (gt_test ?_) fun H6 s6 => ?_))
      · intro Q' q'
        exact r_op (r_var rfl (r_c ⟨rfl, q' _ _ (Same.refl _) rfl⟩))
      · have s06 := ((s03.trans s4).trans s5).trans s6
        have s16 : Same H1 H6 := (((s2.trans s3).trans s4).trans s5).trans s6
        have hr5' : LkV nm H5 r (looked T G m (nmS T) [] []) := hr5
        cases hlk : looked T G m (nmS T) [] [] with
        | none =>
          rw [hlk] at hr5'
          rw [show r = .non from hr5']
          refine iteF (r_next ?_)
          refine ⟨_, rfl, r_c ⟨_, _, rfl, rfl, s16, rfl, _, rfl⟩⟩
        | some st =>
          rw [hlk] at hr5'
          obtain ⟨o', pm, sr, hfo⟩ := hr5'
          have er : decide (r = .non) = false := by
            obtain ⟨p8, _, _, e8, _⟩ := hfo
            rw [e8]; exact decide_eq_false (by simp)
          rw [er]
          obtain ⟨hi, hfo2⟩ := looked_fo same (srt_nmS T) (fun x => mem_nmS) hlk
          obtain ⟨hf, hlen⟩ := looked_fewest hw.ok hw'.ok same (srt_nmS T) (fun x => mem_nmS) hlk hno
          refine iteT (r_ret (r_var rfl (q _ _ s06 ⟨m, st.1, o', tm_fo.same s6 hfo, hf, by rw [pm.length_eq]; exact hlen, hfo2.perm pm.symm, parts_of hi hw N pm sr⟩)))
end
end Jw
end

section
set_option Elab.async false
set_option linter.all false
set_option maxRecDepth 100000
set_option maxHeartbeats 4000000
/-! names_left, is_move, put_beside, does, led, moved. -/
namespace Jt
open Jt.Tr
section
variable {n : Nat} {t T R S P T' : Tr} {l : List Nat}
/-- the names of a tree that are not of a lot -/
def lft (t : Tr) (l : List Nat) : List Nat := (nmS t).filter fun x => decide (x ∉ l)
theorem mem_lft {x : Nat} : x ∈ lft t l ↔ x ∈ t.nm ∧ x ∉ l := by
  unfold lft
  rw [List.mem_filter, mem_nmS]
  simp
theorem lft_rest (h : res (fun x => decide (x ∉ l)) t = some R) : lft t l = nmS R := nmS_eq ((srt_nmS t).filter _) fun x => by
  rw [mem_lft, res_mem h]
  simp
theorem lft_none (h : res (fun x => decide (x ∉ l)) t = none) : lft t l = [] := List.eq_nil_iff_forall_not_mem.mpr fun x hx => by
  have h1 := mt_false.mp (res_none.mp h) x (mem_lft.mp hx).1
  have h2 := (mem_lft.mp hx).2
  simp at h1
  exact h2 h1
theorem rest_nmS : res (fun x => decide (x ∉ nmS S)) t = res (fun x => decide (x ∉ S.nm)) t := res_congr fun x _ => decide_eq_decide.mpr (not_congr mem_nmS)
theorem res_lft (h : res (fun x => decide (x ∉ l)) t = some R) : res (el (lft t l)) t = some R := by
  rw [← h]
  refine res_congr fun x hx => decide_eq_decide.mpr ?_
  rw [mem_lft]
  exact ⟨fun k => k.2, fun k => ⟨hx, k⟩⟩
theorem res_part (ht : t.ok) (h : S ∈ t.subs) : res (el (nmS S)) t = some S := by
  rw [res_in ht h fun x _ hx => mem_nmS.mp (el_true.mp hx)]
  exact res_all (sub_ok ht h) fun x hx => el_true.mpr (mem_nmS.mpr hx)
theorem Mv.rest' (m : Mv S R P T T') : res (fun x => decide (x ∉ nmS S)) T = some R := by rw [rest_nmS]; exact m.rest
theorem nmS_inj_sub (ht : t.ok) (h : S ∈ t.subs) (e : nmS t = nmS S) : S = t := sub_whole ht h fun x hx => mem_nmS.mp (e ▸ mem_nmS.mpr hx)
/-- a way of moves from one tree to another -/
inductive Ch : Tr → List (List Nat × List Nat) → Tr → Prop
  | nil {T : Tr} : Ch T [] T
  | cons {S R P T U W : Tr} {ms : List (List Nat × List Nat)} : Mv S R P T U → Ch U ms W → Ch T ((nmS S, nmS P) :: ms) W
theorem Wf.mv (h : Wf n T) (m : Mv S R P T T') : Wf n T' := ⟨m.ok h.ok, fun x hx => h.lt x ((m.nm x).mp hx)⟩
theorem Wf.rest (h : Wf n T) (m : Mv S R P T T') : Wf n R := h.res m.rest
end
end Jt
namespace Jw
open PySem PySem.Spec PyProof.Rows L2 Jt JH
section
variable {P : Program} {w : World} {K : PySem.W.Frag} {mg : Str → Option Value} {base : Heap} {f : Addr} {fd : FuncData} {nm : Nat → Str} {n : Nat}
/-! ### helpers -/
theorem units65 {k : Nat} {A : Around} (r : Room k A) : A.units + 65 < cLine := by have := r.un; omega
theorem shaped_lots (N : Nm nm n) {o : List (List Nat)} (h : ∀ l ∈ o, ∀ x ∈ l, x < n) : SeqAt.shaped (.list (o.map (dL nm))) = true :=
  shaped_of (by simp only [PyData.canLay0]; exact lay_map _ o fun l hl => lay_dL N (h l hl)) (by have := depth_map (dL nm) 1 o (fun l _ => depth_dL l); simp only [PyData.depth]; omega)
/-- lot in a list of lots -/
theorem any_lots (N : Nm nm n) {l : List Nat} {o : List (List Nat)} (hl : ∀ x ∈ l, x < n) (ho : ∀ m ∈ o, ∀ x ∈ m, x < n) : ((o.map (dL nm)).any fun z => PyData.eqv z (dL nm l)) = decide (l ∈ o) := by
  rw [List.any_map]
  refine bool_iff ?_
  rw [List.any_eq_true]
  constructor
  · rintro ⟨m, hm, e⟩
    rw [← (eqv_dL N (ho m hm) hl).mp e]; exact hm
  · exact fun hm => ⟨l, hm, (eqv_dL N hl hl).mpr rfl⟩
theorem gv_inL (N : Nm nm n) {ta tb : TE} {σ : L2.St} {H : Hp} {l : List Nat} (Po : List (List Nat) → Prop) (ha : Gv ta σ H fun H1 v => LotV nm H1 v l) (hb : ∀ H1, Same H H1 → Gv tb σ H1 fun H1 v => ∃ o, Po o ∧ LstV (LotV nm) H1 v o) (hl : ∀ x ∈ l, x < n) (ho : ∀ o, Po o → ∀ m ∈ o, ∀ x ∈ m, x < n) :
    Gv (tOp (rInD K) ta tb) σ H fun _ r => ∃ o, Po o ∧ r = .bl (decide (l ∈ o)) := fun Q q =>
  r_op (gv_use ha fun x H1 s1 rx => gv_use (hb H1 s1) fun y H2 s2 ⟨o, po, p, ys, ey, hp, ry⟩ => ⟨dL nm l, o.map (dL nm), dp_lot (tm_lot.same s2 rx), by rw [ey]; exact .lst (SqL.of hp) (dp_all ry fun _ _ => dp_lot), sh_dL N hl, shaped_lots N (ho o po), q _ _ (s1.trans s2) ⟨o, po, congrArg V.bl (any_lots N hl (ho o po))⟩⟩)
/-- lot != () -/
theorem gv_neU (N : Nm nm n) {ta : TE} {σ : L2.St} {H : Hp} {l : List Nat} (ha : Gv ta σ H fun H1 v => LotV nm H1 v l) (hl : ∀ x ∈ l, x < n) : Gv (tOp (rNeD K) ta (tTup tNil)) σ H fun _ r => r = .bl (decide (l ≠ [])) :=
  gv_imp (gv_neD (da := dL nm l) (db := .tuple []) ha (fun H2 s2 => gv_unit (α := Nat) (RA := NmV nm)) (fun x y H2 H3 s2 rx s3 ⟨p, ys, ey, hy, ry⟩ => ⟨dp_lot (tm_lot.same s3 rx), by rw [ey]; cases ry; exact .tup (SqT.of hy) .nil⟩) (sh_dL N hl) sh_nil) fun r H3 _ e => by
    rw [e]
    cases l <;> simp [dL, PyData.eqv, PyData.eqvAll]
/-! ### names_left -/
def spLeft (nm : Nat → Str) (n : Nat) : Sp := Pur (ι := Tr × List Nat) (fun i vs H => ∃ v u, vs = [v, u] ∧ TrV nm H v i.1 ∧ LotV nm H u i.2 ∧ Wf n i.1 ∧ ∀ x ∈ i.2, x < n) (fun i _ H r => LotV nm H r (lft i.1 i.2))
theorem sc_names_left : FnScope ["tree", "lot", "name"] ["tree", "lot"] (defScope s_names_left) := ⟨rfl, rfl, rfl, by decide +kernel, rfl, by decide +kernel, by decide +kernel⟩
theorem ok_names_left (F : FnD K "names_left" s_names_left f fd) (B : Bi mg) (N : Nm nm n) (c_names_in : Cal P w K mg base 11 "names_in" ["tree"] (spNamesIn nm n)) : FnOk P w K mg base CX0 12 f fd ["tree", "lot"] (spLeft nm n) := by
  refine F.ok sc_names_left (fun vs H Q E h => ?_) (fun cdv A outer s H vs Q E hr h => ?_)
  · obtain ⟨t, ⟨v, u, rfl, _⟩, _⟩ := h; rfl
  · obtain ⟨⟨t, l⟩, ⟨v, u, rfl, hv, hl, hw, hln⟩, q⟩ := h
    simp only at hv hl hw hln
    refine ⟨_, PSs.nox (pss_one (ps_ret (pe_callTy (tupQ K) (by rfl) B.tuple boot_tuple (pa_cons (pe_lc (own := [("name", 2)]) rfl sc_names_left.nd (piT K (pe_cal c_names_in (hr.mono (by first | decide | omega)) (pa_cons (pv 0) pa_nil))) (blkOk_by (N := ["tree", "lot", "name"]) (sc := defScope s_names_left) (by decide +kernel)) (fun _ _ _ _ _ => (pg_name (i := 2) sc_names_left.nd rfl (by first | exact Or.inl rfl | exact Or.inr rfl))) (fun _ _ _ _ _ => pts_one (pt_cmpR (niS K) (pv 2) (pv 1) (by rfl))) (fun _ _ _ _ _ => (pv 2))) pa_nil)))), ?_⟩
    have hls := hw.lenS
    have hfw := N.few
    refine r_ret (gv_use (gv_tupOf (K := K) (fun as => as = lft t l) (tm_nm (nm := nm)) (gv_imp (gv_lcT (fun x => decide (x ∉ l)) id (fun as => as = nmS t) (tm_nm (nm := nm)) (tm_nm (nm := nm)) (gv_call1 (gv_var rfl hv) fun x H1 s1 rx => ⟨t, ⟨x, rfl, rx, hw⟩, fun r H2 s2 z => ⟨_, rfl, (lot_tup.mp z).sq⟩⟩) (fun _ e => by rw [e]; omega) (fun _ => rfl) ?_ ?_) fun r H1 s1 ⟨as, e, z⟩ => ⟨_, rfl, ?_⟩)) fun r H1 s1 ⟨_, e, z⟩ => q _ _ s1 (by rw [e] at z; exact lot_tup.mpr z))
    · rintro _ x c H2 rfl hc s2 rx
      refine gt_test fun Q' q' => ?_
      obtain ⟨a, rfl, ha⟩ := hl
      rw [show x = sv nm c from rx]
      refine r_op (r_var rfl (r_var rfl ⟨a, _, rfl, .inr (SqT.of (s2 _ _ ha)), rfl, flat_svs, ?_⟩))
      rw [if_pos rfl, inV_sv N (hw.lt c (mem_nmS.mp hc)) hln]
      exact q' _ _ (Same.refl _) (congrArg V.bl (by simp))
    · rintro _ x c H2 rfl hc s2 rx _
      exact gv_var rfl rx
    · rw [e, List.map_id] at z
      exact z.l
/-! ### put_beside -/
def spPut (nm : Nat → Str) (n h : Nat) : Sp := Pur (ι := Tr × Tr × Tr × Tr) (fun i vs H => ∃ v u y, vs = [v, u, y] ∧ TrV nm H v i.1 ∧ LotV nm H u (nmS i.2.1) ∧ TrV nm H y i.2.2.1 ∧ Wf n i.1 ∧ Wf n i.2.2.1 ∧ Disj i.1 i.2.2.1 ∧ Put i.2.1 i.2.2.1 i.1 i.2.2.2 ∧ i.1.sz ≤ h) (fun i _ H r => TrV nm H r i.2.2.2)
theorem sc_put_beside : FnScope ["tree", "place", "part", "one"] ["tree", "place", "part"] (defScope s_put_beside) := ⟨rfl, rfl, rfl, by decide +kernel, rfl, by decide +kernel, by decide +kernel⟩
theorem gv_list2 {ta tb : TE} {σ : L2.St} {H : Hp} {α : Type} {R : Hp → V → α → Prop} {a b : α} (mR : TM R) (ha : Gv ta σ H fun H1 v => R H1 v a) (hb : ∀ H1, Same H H1 → Gv tb σ H1 fun H1 v => R H1 v b) : Gv (tLst (tCons ta (tCons tb tNil))) σ H fun H1 v => LstN R H H1 v [a, b] := fun Q q =>
  r_cons (gv_use ha fun x H1 s1 r1 => r_cons (gv_use (hb H1 s1) fun y H2 s2 r2 => r_nil ⟨by show 2 ≤ sizeLine; decide, fun p hp => q _ _ ((s1.trans s2).trans (same_new hp _)) ⟨p, _, rfl, (s1.trans s2).free hp, upd_same, .cons (mR.same (s2.trans (same_new hp _)) r1) (.cons (mR.same (same_new hp _) r2) .nil)⟩⟩))
theorem has_all_iff {S c : Tr} : ((nmS S).all fun x => decide (x ∈ nmS c)) = decide (∀ x ∈ S.nm, x ∈ c.nm) := bool_iff (by
  rw [List.all_eq_true]
  exact ⟨fun h x hx => mem_nmS.mp (of_decide_eq_true (h x (mem_nmS.mpr hx))), fun h x hx => decide_eq_true (mem_nmS.mpr (h x (mem_nmS.mp hx)))⟩)
theorem st_put_beside (F : FnD K "put_beside" s_put_beside f fd) (B : Bi mg) (N : Nm nm n) (c_names_in : Cal P w K mg base 11 "names_in" ["tree"] (spNamesIn nm n)) (c_fork_of : Cal P w K mg base 4 "fork_of" ["parts"] (spFork nm n)) (c_has_all : Cal P w K mg base 1 "has_all" ["lot", "names"] (spHasAll nm n)) {k h : Nat} (hk : 11 ≤ k)
    (ih : Cal P w K mg base k "put_beside" ["tree", "place", "part"] (spPut nm n h)) : FnOk P w K mg base CX0 (k + 1) f fd ["tree", "place", "part"] (spPut nm n (h + 1)) := by
  refine F.ok sc_put_beside (fun vs H Q E h => ?_) (fun cdv A outer s H vs Q E hr h => ?_)
  · obtain ⟨t, ⟨v, u, y, rfl, _⟩, _⟩ := h; rfl
  · obtain ⟨⟨t, P0, S, t'⟩, ⟨v, u, y, rfl, hv, hl, hy, hw, hS, hd, hp, hs⟩, q⟩ := h
    simp only at hv hl hy hw hS hd hp hs
    have hu := hr.units
    refine ⟨_, PSs.nox (pss_cons (ps_if (pt_cmpR (eqD K hu) (pe_cal c_names_in (hr.mono (by first | decide | omega)) (pa_cons (pv 0) pa_nil)) (pv 1) (by rfl)) (pss_one (ps_ret (pe_cal c_fork_of (hr.mono (by first | decide | omega)) (pa_cons (pe_lst (pa_cons (pv 0) (pa_cons (pv 2) pa_nil))) pa_nil)))) pss_nil)
      (pss_one (ps_ret (pe_cal c_fork_of (hr.mono (by first | decide | omega)) (pa_cons (pe_lc (own := [("one", 3)]) rfl sc_put_beside.nd (piT K (pv 0)) (blkOk_by (N := ["tree", "place", "part", "one"]) (sc := defScope s_put_beside) (by decide +kernel)) (fun _ _ _ _ _ => (pg_name (i := 3) sc_put_beside.nd rfl (by first | exact Or.inl rfl | exact Or.inr rfl))) (fun _ _ _ _ _ => pts_nil) (fun _ _ _ _ _ => (pe_ifExp (pt_val (pe_cal c_has_all (hr.mono (by first | decide | omega)) (pa_cons (pe_cal c_names_in (hr.mono (by first | decide | omega)) (pa_cons (pv 3) pa_nil)) (pa_cons (pv 1) pa_nil)))) (pe_cal ih (hr.mono (by first | decide | omega)) (pa_cons (pv 3) (pa_cons (pv 1) (pa_cons (pv 2) pa_nil)))) (pv 3)))) pa_nil))))), ?_⟩
    have hPs := hp.sub
    have hPn : ∀ x ∈ nmS P0, x < n := fun x hx => hw.lt x (sub_nm hPs x (mem_nmS.mp hx))
    have hfw := N.few
    have hPl : (nmS P0).length ≤ 5 := by have := (hw.sub hPs).lenS; omega
    refine r_seq (r_if (gt_use (b := decide (nmS t = nmS P0)) (gt_test (gv_imp (gv_eqD (da := dL nm (nmS t)) (db := dL nm (nmS P0)) (Ra := fun H r => LotV nm H r (nmS t)) (Rb := fun H r => LotV nm H r (nmS P0)) (gv_call1 (gv_var rfl hv) fun x H1 s1 rx => ⟨t, ⟨x, rfl, rx, hw⟩, fun r H2 s2 z => z⟩) (fun H1 s1 => gv_var rfl (tm_lot.same s1 hl)) (fun x y H2 H3 s2 rx s3 ry => ⟨dp_lot (tm_lot.same s3 rx), dp_lot ry⟩) (sh_dL N fun x hx => hw.lt x (mem_nmS.mp hx)) (sh_dL N hPn)) fun r H2 _ e => ?_)) fun H1 s1 => ?_))
    · rw [e]
      exact congrArg V.bl (bool_iff (eqv_dL N (fun x hx => hw.lt x (mem_nmS.mp hx)) hPn))
    · cases hp with
      | here =>
        rw [decide_eq_true rfl]
        refine iteT (r_ret (gv_use (gv_call1 (gv_list2 tm_tr (gv_var (R := fun H r => TrV nm H r t) rfl (tm_tr.same s1 hv)) fun H2 s2 => gv_var (R := fun H r => TrV nm H r S) rfl (tm_tr.same (s1.trans s2) hy)) fun z H2 s2 rz => ⟨[t, S], ⟨z, rfl, rz.l, fun a ha => ?_, .inr ⟨t, S, rfl, hd.fst_ne⟩⟩, fun r H3 s3 z => z⟩) fun r H2 s2 ⟨t1, e, z⟩ => q _ _ (s1.trans s2) ?_))
        · rcases List.mem_cons.mp ha with rfl | ha
          · exact hw
          · rw [List.mem_singleton.mp ha]; exact hS
        · cases e; exact z
      | @left a a' b g =>
        have hPa := g.sub
        have hne : nmS (.fk a b) ≠ nmS P0 := fun e => by
          have h1 := nmS_inj_sub hw.ok hPs e
          have h2 := sub_sz hPa
          rw [h1] at h2
          simp only [Tr.sz] at h2
          omega
        rw [decide_eq_false hne]
        simp only [Tr.sz] at hs
        have hda := hd.l
        have wa' : Wf n a' := ⟨g.ok hw.l.ok hS.ok hda, fun x hx => ((g.mem x).mp hx).elim (hw.l.lt x) (hS.lt x)⟩
        have hab := ok_disj hw.ok
        have hneab : a ≠ b := fun e => hab _ (fst_mem a) (e ▸ fst_mem a)
        have hb0 : ¬ ∀ x ∈ P0.nm, x ∈ b.nm := fun z => hab _ (sub_nm hPa _ (fst_mem P0)) (z _ (fst_mem P0))
        refine iteF (r_next (r_ret (gv_use (gv_call1 (gv_lcT0 (fun c => if c = a then a' else c) (fun as => as = [a, b]) tm_tr (tm_tr (nm := nm)) (gv_var rfl ⟨_, rfl, (tm_tr.same s1 hv).tup.sq⟩) (fun _ e => by rw [e]; simp) (fun _ => rfl) ?_) fun z H2 s2 ⟨_, e, rz⟩ => ⟨[a', b], ⟨z, rfl, ?_, fun c hc => ?_, .inr ⟨a', b, rfl, (g.dl hw.ok hd).fst_ne⟩⟩, fun r H3 s3 z => z⟩) fun r H2 s2 ⟨t1, e, z⟩ => q _ _ (s1.trans s2) ?_)))
        · rintro _ x c H2 rfl hc s2 rx Q' q'
          have wc : Wf n c ∧ c.sz ≤ h := by
            rcases List.mem_cons.mp hc with rfl | hc
            · exact ⟨hw.l, by omega⟩
            · rw [List.mem_singleton.mp hc]; exact ⟨hw.r, by omega⟩
          have hcl := wc.1.lenS
          refine r_ifE (r_tB (r_call2 (gv_use (gv_call1 (R := fun H r => LotV nm H r (nmS c)) (gv_var rfl rx) fun x H1 s1 rx => ⟨c, ⟨x, rfl, rx, wc.1⟩, fun r H2 s2 z => z⟩) fun r1 H3 s3 z3 => r_var rfl ⟨r1, u, nmS c, nmS P0, rfl, z3, tm_lot.same ((s1.trans s2).trans s3) hl, fun x hx => wc.1.lt x (mem_nmS.mp hx), hPn, by omega, by omega, fun H4 s4 => ⟨_, rfl, ?_⟩⟩)))
          rw [has_all_iff]
          rcases List.mem_cons.mp hc with e | hc
          · rw [decide_eq_true (show ∀ x ∈ P0.nm, x ∈ c.nm from fun x hx => e ▸ sub_nm hPa x hx)]
            refine iteT (gv_use (gv_call3 (gv_var (R := fun H r => TrV nm H r c) rfl (tm_tr.same (s3.trans s4) rx)) (fun H5 s5 => gv_var (R := fun H r => LotV nm H r (nmS P0)) rfl (tm_lot.same (((s1.trans s2).trans (s3.trans s4)).trans s5) hl)) (fun H5 s5 => gv_var (R := fun H r => TrV nm H r S) rfl (tm_tr.same (((s1.trans s2).trans (s3.trans s4)).trans s5) hy)) fun x y z H5 H6 H7 s5 rx s6 ry s7 rz => ⟨(c, P0, S, a'), ⟨x, y, z, rfl, tm_tr.same (s6.trans s7) rx, tm_lot.same s7 ry, rz, wc.1, hS, e ▸ hda, e ▸ g, wc.2⟩, fun r H6 s6 z => z⟩) fun r H5 s5 z => q' _ _ ((s3.trans s4).trans s5) ?_)
            rw [if_pos e]; exact z
          · have e := List.mem_singleton.mp hc
            rw [decide_eq_false (show ¬ ∀ x ∈ P0.nm, x ∈ c.nm from fun z => hb0 (e ▸ z))]
            refine iteF (r_var rfl (q' _ _ (s3.trans s4) ?_))
            rw [if_neg (fun z => hneab (z.symm.trans e))]
            exact tm_tr.same (s3.trans s4) rx
        · have : ([a, b].map fun c => if c = a then a' else c) = [a', b] := by simp [Ne.symm hneab]
          rw [e, this] at rz
          exact rz.l
        · rcases List.mem_cons.mp hc with rfl | hc
          · exact wa'
          · rw [List.mem_singleton.mp hc]; exact hw.r
        · cases e; exact z
      | @right a b b' g =>
        have hPb := g.sub
        have hne : nmS (.fk a b) ≠ nmS P0 := fun e => by
          have h1 := nmS_inj_sub hw.ok hPs e
          have h2 := sub_sz hPb
          rw [h1] at h2
          simp only [Tr.sz] at h2
          omega
        rw [decide_eq_false hne]
        simp only [Tr.sz] at hs
        have hdb := hd.r
        have wb' : Wf n b' := ⟨g.ok hw.r.ok hS.ok hdb, fun x hx => ((g.mem x).mp hx).elim (hw.r.lt x) (hS.lt x)⟩
        have hab := ok_disj hw.ok
        have hneab : a ≠ b := fun e => hab _ (fst_mem a) (e ▸ fst_mem a)
        have hb0 : ¬ ∀ x ∈ P0.nm, x ∈ a.nm := fun z => hab _ (z _ (fst_mem P0)) (sub_nm hPb _ (fst_mem P0))
        refine iteF (r_next (r_ret (gv_use (gv_call1 (gv_lcT0 (fun c => if c = b then b' else c) (fun as => as = [a, b]) tm_tr (tm_tr (nm := nm)) (gv_var rfl ⟨_, rfl, (tm_tr.same s1 hv).tup.sq⟩) (fun _ e => by rw [e]; simp) (fun _ => rfl) ?_) fun z H2 s2 ⟨_, e, rz⟩ => ⟨[a, b'], ⟨z, rfl, ?_, fun c hc => ?_, .inr ⟨a, b', rfl, (g.dr hw.ok hd).fst_ne⟩⟩, fun r H3 s3 z => z⟩) fun r H2 s2 ⟨t1, e, z⟩ => q _ _ (s1.trans s2) ?_)))
        · rintro _ x c H2 rfl hc s2 rx Q' q'
          have wc : Wf n c ∧ c.sz ≤ h := by
            rcases List.mem_cons.mp hc with rfl | hc
            · exact ⟨hw.l, by omega⟩
            · rw [List.mem_singleton.mp hc]; exact ⟨hw.r, by omega⟩
          have hcl := wc.1.lenS
          refine r_ifE (r_tB (r_call2 (gv_use (gv_call1 (R := fun H r => LotV nm H r (nmS c)) (gv_var rfl rx) fun x H1 s1 rx => ⟨c, ⟨x, rfl, rx, wc.1⟩, fun r H2 s2 z => z⟩) fun r1 H3 s3 z3 => r_var rfl ⟨r1, u, nmS c, nmS P0, rfl, z3, tm_lot.same ((s1.trans s2).trans s3) hl, fun x hx => wc.1.lt x (mem_nmS.mp hx), hPn, by omega, by omega, fun H4 s4 => ⟨_, rfl, ?_⟩⟩)))
          rw [has_all_iff]
          by_cases e : c = b
          · rw [decide_eq_true (show ∀ x ∈ P0.nm, x ∈ c.nm from fun x hx => e ▸ sub_nm hPb x hx)]
            refine iteT (gv_use (gv_call3 (gv_var (R := fun H r => TrV nm H r c) rfl (tm_tr.same (s3.trans s4) rx)) (fun H5 s5 => gv_var (R := fun H r => LotV nm H r (nmS P0)) rfl (tm_lot.same (((s1.trans s2).trans (s3.trans s4)).trans s5) hl)) (fun H5 s5 => gv_var (R := fun H r => TrV nm H r S) rfl (tm_tr.same (((s1.trans s2).trans (s3.trans s4)).trans s5) hy)) fun x y z H5 H6 H7 s5 rx s6 ry s7 rz => ⟨(c, P0, S, b'), ⟨x, y, z, rfl, tm_tr.same (s6.trans s7) rx, tm_lot.same s7 ry, rz, wc.1, hS, e ▸ hdb, e ▸ g, wc.2⟩, fun r H6 s6 z => z⟩) fun r H5 s5 z => q' _ _ ((s3.trans s4).trans s5) ?_)
            rw [if_pos e]; exact z
          · have e2 : c = a := by
              rcases List.mem_cons.mp hc with e2 | hc
              · exact e2
              · exact (e (List.mem_singleton.mp hc)).elim
            rw [decide_eq_false (show ¬ ∀ x ∈ P0.nm, x ∈ c.nm from fun z => hb0 (e2 ▸ z))]
            refine iteF (r_var rfl (q' _ _ (s3.trans s4) ?_))
            rw [if_neg e]
            exact tm_tr.same (s3.trans s4) rx
        · have : ([a, b].map fun c => if c = b then b' else c) = [a, b'] := by simp [hneab]
          rw [e, this] at rz
          exact rz.l
        · rcases List.mem_cons.mp hc with rfl | hc
          · exact hw.l
          · rw [List.mem_singleton.mp hc]; exact wb'
        · cases e; exact z
theorem ok_put_beside (F : FnD K "put_beside" s_put_beside f fd) (B : Bi mg) (N : Nm nm n) (c_names_in : Cal P w K mg base 11 "names_in" ["tree"] (spNamesIn nm n)) (c_fork_of : Cal P w K mg base 4 "fork_of" ["parts"] (spFork nm n)) (c_has_all : Cal P w K mg base 1 "has_all" ["lot", "names"] (spHasAll nm n)) (m : mg "put_beside" = some (.ref f)) : ∀ h, FnOk P w K mg base CX0 (h + 11) f fd ["tree", "place", "part"] (spPut nm n h)
  | 0 => ⟨fun vs H Q E ⟨t, ⟨v, u, y, e, _⟩, _⟩ => by rw [e]; rfl, fun _ _ _ _ _ _ _ _ _ _ _ _ _ ⟨t, ⟨_, _, _, _, _, _, _, _, _, _, _, h⟩, _⟩ => absurd h (by have := sz_pos t.1; omega)⟩
  | h + 1 => st_put_beside F B N c_names_in c_fork_of c_has_all (by omega) (cal_mk F (ok_put_beside F B N c_names_in c_fork_of c_has_all m h) m (bd3 fun _ _ _ _ _ _ _ _ _ => by first | rfl | kernel_rfl))
/-! ### is_move -/
abbrev MvV (nm : Nat → Str) : Hp → V → List Nat × List Nat → Prop := PrV (LotV nm) (LotV nm)
theorem tm_mv : TM (MvV nm) := tm_pr tm_lot tm_lot
def spIsMove (nm : Nat → Str) (n : Nat) : Sp := Pur (ι := Tr × Tr × Tr × Tr × Tr) (fun i vs H => ∃ v u, vs = [v, u] ∧ TrV nm H v i.1 ∧ MvV nm H u (nmS i.2.1, nmS i.2.2.2.1) ∧ Wf n i.1 ∧ Mv i.2.1 i.2.2.1 i.2.2.2.1 i.1 i.2.2.2.2) (fun _ _ _ r => r = .bl true)
theorem sc_is_move : FnScope ["tree", "thing", "lot", "place", "left"] ["tree", "thing"] (defScope s_is_move) := ⟨rfl, rfl, rfl, by decide +kernel, rfl, by decide +kernel, by decide +kernel⟩
theorem ok_is_move (F : FnD K "is_move" s_is_move f fd) (B : Bi mg) (N : Nm nm n) (c_is_lot : Cal P w K mg base 2 "is_lot" ["thing"] (spIsLot nm n)) (c_names_left : Cal P w K mg base 12 "names_left" ["tree", "lot"] (spLeft nm n)) (c_nodes_of : Cal P w K mg base 23 "nodes_of" ["tree"] (spNodesOf nm n)) (c_tree_to : Cal P w K mg base 15 "tree_to" ["tree", "names"] (spTreeTo nm n)) :
    FnOk P w K mg base CX0 24 f fd ["tree", "thing"] (spIsMove nm n) := by
  refine F.ok sc_is_move (fun vs H Q E h => ?_) (fun cdv A outer s H vs Q E hr h => ?_)
  · obtain ⟨t, ⟨v, u, rfl, _⟩, _⟩ := h; rfl
  · obtain ⟨⟨T, S, R, P0, T'⟩, ⟨v, u, rfl, hv, hu', hw, hm⟩, q⟩ := h
    simp only at hv hu' hw hm
    have hu := hr.units
    have hu1 := units65 hr
    refine ⟨_, PSs.nox (pss_cons (ps_if ((pw_or (pt_not (pt_val (pe_callB (isiQ K) (by rfl) B.isinstance boot_isinstance (pa_cons (pv 1) (pa_cons (pe_bltn (v := .ty "tuple") (by rfl) B.tuple boot_tuple rfl) pa_nil))))) (pw_or (pt_cmpR op_ne (pe_callB (lenQ K) (by rfl) B.len boot_len (pa_cons (pv 1) pa_nil)) (pe_int) (by rfl)) (pw_or1 (pt_not (pt_val (pe_callB (allQ K) (by rfl) B.all boot_all (pa_cons (pe_lc (own := [("lot", 2)]) rfl sc_is_move.nd (piT K (pv 1)) (blkOk_by (N := ["tree", "thing", "lot", "place", "left"]) (sc := defScope s_is_move) (by decide +kernel)) (fun _ _ _ _ _ => (pg_name (i := 2) sc_is_move.nd rfl (by first | exact Or.inl rfl | exact Or.inr rfl))) (fun _ _ _ _ _ => pts_nil) (fun _ _ _ _ _ => (pe_cal c_is_lot (hr.mono (by first | decide | omega)) (pa_cons (pv 2) pa_nil)))) pa_nil))))))).pt) (pss_one (ps_ret (pe_bl))) pss_nil)
      (pss_cons (ps_asg (pv 1) (pg_tup rfl (pgs_cons (pg_name (i := 2) sc_is_move.nd rfl (by first | exact Or.inl rfl | exact Or.inr rfl)) (pgs_cons (pg_name (i := 3) sc_is_move.nd rfl (by first | exact Or.inl rfl | exact Or.inr rfl)) pgs_nil))))
      (pss_cons (ps_set (i := 4) sc_is_move.nd rfl (by first | exact Or.inl rfl | exact Or.inr rfl) (pe_cal c_names_left (hr.mono (by first | decide | omega)) (pa_cons (pv 0) (pa_cons (pv 2) pa_nil))))
      (pss_one (ps_ret (pe_and (pe_cmpR (inDp K hu1) (pv 2) (pe_cal c_nodes_of (hr.mono (by first | decide | omega)) (pa_cons (pv 0) pa_nil)) (by rfl)) (pe_and (pe_cmpR (neD K hu) (pv 4) (pe_tup pa_nil) (by rfl)) (pe_one (pe_cmpR (inDp K hu1) (pv 3) (pe_cal c_nodes_of (hr.mono (by first | decide | omega)) (pa_cons (pe_cal c_tree_to (hr.mono (by first | decide | omega)) (pa_cons (pv 0) (pa_cons (pv 4) pa_nil))) pa_nil)) (by rfl)))))))))), ?_⟩
    obtain ⟨p, x, y, rfl, hp, hx, hy⟩ := id hu'
    simp only at hx hy
    have wR := hw.rest hm
    have wS := hw.sub hm.sub
    have wP := wR.sub hm.put.sub
    have lS : ∀ z ∈ nmS S, z < n := fun z hz => wS.lt z (mem_nmS.mp hz)
    have lP : ∀ z ∈ nmS P0, z < n := fun z hz => wP.lt z (mem_nmS.mp hz)
    have htup : ∀ {H'}, Same H H' → TupV (LotV nm) H' (.ref p) [nmS S, nmS P0] := fun s => ⟨p, _, rfl, s _ _ hp, .cons (tm_lot.same s hx) (.cons (tm_lot.same s hy) .nil)⟩
    refine r_seq (r_if (gt_use (b := false) (gt_or (b := false) (gt_not (b := true) (gt_gv (gv_isTup (R := fun _ _ => True) (gv_var rfl ⟨p, _, rfl, hp⟩)))) (c := false) fun H1 s1 => gt_or (b := false) (gt_test fun Q' q' => ?_) fun H2 s2 => gt_not (b := true) (gt_gv (gv_imp (gv_all (bs := [nmS S, nmS P0].map fun _ => true) (gv_imp (gv_lcT0 (fun _ => true) (fun as => as = [nmS S, nmS P0]) (tm_lot (nm := nm)) tm_bl (gv_var rfl ⟨_, rfl, (htup (s1.trans s2)).sq⟩) (fun _ e => by rw [e]; simp) (fun _ => rfl) ?_) fun r H3 _ ⟨_, e, h⟩ => by rw [e] at h; exact h.l)) fun r H3 _ e => by rw [e]; rfl))) fun H1 s1 => iteF (r_next ?_)))
    · exact r_op (gv_use (gv_len (n := 2) (gv_var rfl ⟨p, _, rfl, .inr (SqT.of (s1 _ _ hp)), rfl⟩)) fun z H2 s2 e => r_c ⟨by rw [e]; rfl, q' _ _ s2 (by rw [e]; rfl)⟩)
    · rintro _ z c H4 rfl hc s4 rz
      refine gv_call1 (gv_var rfl rz) fun z2 H5 s5 rz2 => ⟨c, ⟨z2, rfl, rz2, ?_⟩, fun r H6 _ e => e⟩
      rcases List.mem_cons.mp hc with e | hc
      · subst e; exact ⟨nmS_ne S, srt_nmS S, lS⟩
      · have e := List.mem_singleton.mp hc
        subst e; exact ⟨nmS_ne P0, srt_nmS P0, lP⟩
    · refine r_seq (r_asgP (r_var rfl ⟨p, [x, y], rfl, SqT.of (s1 _ _ hp), rfl, x, _, rfl, y, _, rfl, rfl, ?_⟩))
      refine r_seq (r_asg (gv_use (gv_call2 (R := fun H r => LotV nm H r (nmS R)) (gv_var (R := fun H r => TrV nm H r T) rfl (tm_tr.same s1 hv)) (fun H2 s2 => gv_var (R := fun H r => LotV nm H r (nmS S)) rfl (tm_lot.same (s1.trans s2) hx)) fun x y H1 H2 s1 rx s2 ry => ⟨(T, nmS S), ⟨x, y, rfl, tm_tr.same s2 rx, ry, hw, lS⟩, fun r H3 s3 z => by rw [← lft_rest hm.rest']; exact z⟩) fun lv H2 s2 hl => ?_))
      refine r_ret (gv_use (gv_and (b := true) (c := true) (gv_imp (gv_inL N (fun o => Nodes T o) (gv_var (R := fun H r => LotV nm H r (nmS S)) rfl (tm_lot.same (s1.trans s2) hx)) (fun H3 s3 => gv_imp (gv_call1 (R := fun H1 r => ∃ L, Nodes T L ∧ LstV (LotV nm) H1 r L) (gv_var (R := fun H r => TrV nm H r T) rfl (tm_tr.same ((s1.trans s2).trans s3) hv)) fun x H1 s1 rx => ⟨T, ⟨x, rfl, rx, hw⟩, fun r H2 s2 ⟨L, hN, z⟩ => ⟨L, hN, z.l⟩⟩) fun r H1 s1 z => z) lS (fun o ho => ho.lt hw)) fun r H3 _ ⟨o, ho, e⟩ => by rw [e, decide_eq_true ((ho.mem _).mpr ⟨S, hm.sub, rfl⟩)])
        (fun H3 s3 => gv_and (b := true) (c := true) (gv_imp (gv_neU N (gv_var (R := fun H r => LotV nm H r (nmS R)) rfl (tm_lot.same s3 hl)) (fun x hx => wR.lt x (mem_nmS.mp hx))) fun r H4 _ e => by rw [e, decide_eq_true (nmS_ne R)])
          (fun H4 s4 => gv_imp (gv_inL N (fun o => Nodes R o) (gv_var (R := fun H r => LotV nm H r (nmS P0)) rfl (tm_lot.same (((s1.trans s2).trans s3).trans s4) hy)) (fun H5 s5 => gv_call1 (R := fun H1 r => ∃ L, Nodes R L ∧ LstV (LotV nm) H1 r L) (gv_call2 (R := fun H r => TrV nm H r R) (gv_var (R := fun H r => TrV nm H r T) rfl (tm_tr.same ((((s1.trans s2).trans s3).trans s4).trans s5) hv)) (fun H6 s6 => gv_var (R := fun H r => LotV nm H r (nmS R)) rfl (tm_lot.same (((s3.trans s4).trans s5).trans s6) hl)) fun x y H1 H2 s1 rx s2 ry => ⟨(T, nmS R), ⟨x, y, rfl, tm_tr.same s2 rx, ry, hw, fun x hx => wR.lt x (mem_nmS.mp hx)⟩, fun r H3 s3 z => ?_⟩) fun x H1 s1 rx => ⟨R, ⟨x, rfl, rx, wR⟩, fun r H2 s2 ⟨L, hN, z⟩ => ⟨L, hN, z.l⟩⟩) lP (fun o ho => ho.lt wR)) fun r H3 _ ⟨o, ho, e⟩ => by rw [e, decide_eq_true ((ho.mem _).mpr ⟨P0, hm.put.sub, rfl⟩)]))) fun r H3 s3 e => q _ _ ((s1.trans s2).trans s3) e)
      have : OTr nm H3 r (res (el (nmS R)) T) := z
      rw [← lft_rest hm.rest', res_lft hm.rest'] at this
      exact this
/-! ### does -/
def spDoes (nm : Nat → Str) (n : Nat) : Sp := Pur (ι := Tr × Tr × Tr × Tr × Tr) (fun i vs H => ∃ v u, vs = [v, u] ∧ TrV nm H v i.1 ∧ MvV nm H u (nmS i.2.1, nmS i.2.2.2.1) ∧ Wf n i.1 ∧ Mv i.2.1 i.2.2.1 i.2.2.2.1 i.1 i.2.2.2.2) (fun i _ H r => TrV nm H r i.2.2.2.2)
theorem sc_does : FnScope ["tree", "move", "lot", "place"] ["tree", "move"] (defScope s_does) := ⟨rfl, rfl, rfl, by decide +kernel, rfl, by decide +kernel, by decide +kernel⟩
theorem ok_does (F : FnD K "does" s_does f fd) (B : Bi mg) (N : Nm nm n) (c_put_beside : Cal P w K mg base 20 "put_beside" ["tree", "place", "part"] (spPut nm n 9)) (c_names_left : Cal P w K mg base 12 "names_left" ["tree", "lot"] (spLeft nm n)) (c_tree_to : Cal P w K mg base 15 "tree_to" ["tree", "names"] (spTreeTo nm n)) :
    FnOk P w K mg base CX0 21 f fd ["tree", "move"] (spDoes nm n) := by
  refine F.ok sc_does (fun vs H Q E h => ?_) (fun cdv A outer s H vs Q E hr h => ?_)
  · obtain ⟨t, ⟨v, u, rfl, _⟩, _⟩ := h; rfl
  · obtain ⟨⟨T, S, R, P0, T'⟩, ⟨v, u, rfl, hv, hu', hw, hm⟩, q⟩ := h
    simp only at hv hu' hw hm
    refine ⟨_, PSs.nox (pss_cons (ps_asg (pv 1) (pg_tup rfl (pgs_cons (pg_name (i := 2) sc_does.nd rfl (by first | exact Or.inl rfl | exact Or.inr rfl)) (pgs_cons (pg_name (i := 3) sc_does.nd rfl (by first | exact Or.inl rfl | exact Or.inr rfl)) pgs_nil))))
      (pss_one (ps_ret (pe_cal c_put_beside (hr.mono (by first | decide | omega)) (pa_cons (pe_cal c_tree_to (hr.mono (by first | decide | omega)) (pa_cons (pv 0) (pa_cons (pe_cal c_names_left (hr.mono (by first | decide | omega)) (pa_cons (pv 0) (pa_cons (pv 2) pa_nil))) pa_nil))) (pa_cons (pv 3) (pa_cons (pe_cal c_tree_to (hr.mono (by first | decide | omega)) (pa_cons (pv 0) (pa_cons (pv 2) pa_nil))) pa_nil))))))), ?_⟩
    obtain ⟨p, x, y, rfl, hp, hx, hy⟩ := id hu'
    simp only at hx hy
    have wR := hw.rest hm
    have wS := hw.sub hm.sub
    have lS : ∀ z ∈ nmS S, z < n := fun z hz => wS.lt z (mem_nmS.mp hz)
    refine r_seq (r_asgP (r_var rfl ⟨p, [x, y], rfl, SqT.of hp, rfl, x, _, rfl, y, _, rfl, rfl, ?_⟩))
    refine r_ret (gv_use (gv_call3 (R := fun H r => TrV nm H r T') (gv_call2 (R := fun H r => TrV nm H r R) (gv_var (R := fun H r => TrV nm H r T) rfl hv) (fun H2 s2 => gv_call2 (R := fun H r => LotV nm H r (nmS R)) (gv_var (R := fun H r => TrV nm H r T) rfl (tm_tr.same s2 hv)) (fun H3 s3 => gv_var (R := fun H r => LotV nm H r (nmS S)) rfl (tm_lot.same (s2.trans s3) hx)) fun x y H1 H2 s1 rx s2 ry => ⟨(T, nmS S), ⟨x, y, rfl, tm_tr.same s2 rx, ry, hw, lS⟩, fun r H3 s3 z => by rw [← lft_rest hm.rest']; exact z⟩) fun x y H1 H2 s1 rx s2 ry => ⟨(T, nmS R), ⟨x, y, rfl, tm_tr.same s2 rx, ry, hw, fun x hx => wR.lt x (mem_nmS.mp hx)⟩, fun r H3 s3 z => ?_⟩)
      (fun H2 s2 => gv_var (R := fun H r => LotV nm H r (nmS P0)) rfl (tm_lot.same s2 hy))
      (fun H2 s2 => gv_call2 (R := fun H r => TrV nm H r S) (gv_var (R := fun H r => TrV nm H r T) rfl (tm_tr.same s2 hv)) (fun H3 s3 => gv_var (R := fun H r => LotV nm H r (nmS S)) rfl (tm_lot.same (s2.trans s3) hx)) fun x y H1 H2 s1 rx s2 ry => ⟨(T, nmS S), ⟨x, y, rfl, tm_tr.same s2 rx, ry, hw, lS⟩, fun r H3 s3 z => ?_⟩)
      fun x y z H1 H2 H3 s1 rx s2 ry s3 rz => ⟨(R, P0, S, T'), ⟨x, y, z, rfl, tm_tr.same (s2.trans s3) rx, tm_lot.same s3 ry, rz, wR, wS, hm.disj, hm.put, wR.sz N.few⟩, fun r H4 s4 z => z⟩) fun r H1 s1 z => q _ _ s1 z)
    · have : OTr nm H3 r (res (el (nmS R)) T) := z
      rw [← lft_rest hm.rest', res_lft hm.rest'] at this
      exact this
    · have : OTr nm H3 r (res (el (nmS S)) T) := z
      rw [res_part hw.ok hm.sub] at this
      exact this
/-! ### led, moved -/
def spLed (nm : Nat → Str) (n : Nat) : Sp := Pur (ι := Tr × List (List Nat × List Nat) × Tr) (fun i vs H => ∃ v u, vs = [v, u] ∧ TrV nm H v i.1 ∧ LstV (MvV nm) H u i.2.1 ∧ Wf n i.1 ∧ Ch i.1 i.2.1 i.2.2 ∧ i.2.1.length ≤ 100) (fun i _ H r => TrV nm H r i.2.2)
theorem sc_led : FnScope ["tree", "moves", "at", "move"] ["tree", "moves"] (defScope s_led) := ⟨rfl, rfl, rfl, by decide +kernel, rfl, by decide +kernel, by decide +kernel⟩
theorem ok_led (F : FnD K "led" s_led f fd) (B : Bi mg) (N : Nm nm n) (c_is_move : Cal P w K mg base 24 "is_move" ["tree", "thing"] (spIsMove nm n)) (c_does : Cal P w K mg base 21 "does" ["tree", "move"] (spDoes nm n)) : FnOk P w K mg base CX0 25 f fd ["tree", "moves"] (spLed nm n) := by
  refine F.ok sc_led (fun vs H Q E h => ?_) (fun cdv A outer s H vs Q E hr h => ?_)
  · obtain ⟨t, ⟨v, u, rfl, _⟩, _⟩ := h; rfl
  · obtain ⟨⟨T, ms, W⟩, ⟨v, u, rfl, hv, hu', hw, hc, hlen⟩, q⟩ := h
    simp only at hv hu' hw hc hlen
    refine ⟨_, PSs.nox (pss_cons (ps_for PassesOwn.never rfl (pi_enum (by rfl) B.enumerate (pa_cons (pv 1) pa_nil)) (pg_tup rfl (pgs_cons (pg_name (i := 2) sc_led.nd rfl (by first | exact Or.inl rfl | exact Or.inr rfl)) (pgs_cons (pg_name (i := 3) sc_led.nd rfl (by first | exact Or.inl rfl | exact Or.inr rfl)) pgs_nil))) (pss_cons (ps_if (pt_not (pt_val (pe_cal c_is_move (hr.mono (by first | decide | omega)) (pa_cons (pv 0) (pa_cons (pv 3) pa_nil))))) (pss_one (ps_never)) pss_nil)
      (pss_one (ps_set (i := 0) sc_led.nd rfl (by first | exact Or.inl rfl | exact Or.inr rfl) (pe_cal c_does (hr.mono (by first | decide | omega)) (pa_cons (pv 0) (pa_cons (pv 3) pa_nil)))))))
      (pss_one (ps_ret (pv 0)))), ?_⟩
    obtain ⟨pl, xs, rfl, hp, rx⟩ := id hu'
    have hxl := rx.len
    refine r_seq (r_var rfl ⟨pl, xs, rfl, SqL.of hp, for_it (walk_enum (K := K) (a := pl) (xs := xs)) (fun i σ H' => Same H H' ∧ ∃ U vU a b, σ = [some vU, some (.ref pl), a, b] ∧ TrV nm H' vU U ∧ Wf n U ∧ Ch U (ms.drop i) W) ⟨Same.refl _, T, v, none, none, rfl, hv, hw, hc⟩ (fun i σ H' _ p => p.1.seq (SqL.of hp)) ?_ ?_⟩)
    · rintro i x0 σ H2 H3 hi ⟨s2, U, vU, a, b, rfl, hU, wU, hch⟩ ⟨T0, kx, lx, rfl, hT, rfl, e1, e2⟩
      cases e1
      obtain ⟨m, hm, rm⟩ := rx.get e2
      have hdr : ms.drop i = m :: ms.drop (i + 1) := by
        obtain ⟨hlt, he⟩ := List.getElem?_eq_some_iff.mp hm
        rw [List.drop_eq_getElem_cons hlt, he]
      rw [hdr] at hch
      generalize hms : ms.drop (i + 1) = rest at hch
      have s3 : Same H2 (upd H2 T0 (.tup [.int (i : Nat), lx])) := same_new hT _
      refine ⟨T0, [.int (i : Nat), lx], rfl, SqT.of upd_same, rfl, _, _, rfl, _, _, rfl, rfl, ?_⟩
      cases hch with
      | @cons S R P0 _ U' _ _ hmv hch =>
      refine r_seq (r_if (gt_use (gt_not (b := true) (gt_gv (gv_call2 (gv_var (R := fun H r => TrV nm H r U) rfl (tm_tr.same s3 hU)) (fun H4 s4 => gv_var (R := fun H r => MvV nm H r (nmS S, nmS P0)) rfl (tm_mv.same ((s2.trans s3).trans s4) rm)) fun x y H4 H5 s4 rx s5 ry => ⟨(U, S, R, P0, U'), ⟨x, y, rfl, tm_tr.same s5 rx, ry, wU, hmv⟩, fun r H6 s6 e => e⟩))) fun H4 s4 => iteF (r_next ?_)))
      refine r_asg (gv_use (gv_call2 (R := fun H r => TrV nm H r U') (gv_var (R := fun H r => TrV nm H r U) rfl (tm_tr.same (s3.trans s4) hU)) (fun H5 s5 => gv_var (R := fun H r => MvV nm H r (nmS S, nmS P0)) rfl (tm_mv.same (((s2.trans s3).trans s4).trans s5) rm)) fun x y H4 H5 s4 rx s5 ry => ⟨(U, S, R, P0, U'), ⟨x, y, rfl, tm_tr.same s5 rx, ry, wU, hmv⟩, fun r H6 s6 e => e⟩) fun r H5 s5 hr => ?_)
      exact ⟨((s2.trans s3).trans s4).trans s5, U', r, _, _, rfl, hr, wU.mv hmv, hch⟩
    · rintro σ H2 ⟨s2, U, vU, a, b, rfl, hU, wU, hch⟩
      rw [List.drop_eq_nil_of_le (by omega)] at hch
      cases hch
      exact r_ret (r_var rfl (q _ _ s2 hU))
def spMoved (nm : Nat → Str) (n : Nat) : Sp := Pur (ι := Tr × Tr × Tr × Tr × Tr) (fun i vs H => ∃ v u, vs = [v, u] ∧ TrV nm H v i.1 ∧ MvV nm H u (nmS i.2.1, nmS i.2.2.2.1) ∧ Wf n i.1 ∧ Mv i.2.1 i.2.2.1 i.2.2.2.1 i.1 i.2.2.2.2) (fun i _ H r => TrV nm H r i.2.2.2.2)
theorem sc_moved : FnScope ["tree", "move"] ["tree", "move"] (defScope s_moved) := ⟨rfl, rfl, rfl, by decide +kernel, rfl, by decide +kernel, by decide +kernel⟩
theorem ok_moved (F : FnD K "moved" s_moved f fd) (B : Bi mg) (N : Nm nm n) (c_led : Cal P w K mg base 25 "led" ["tree", "moves"] (spLed nm n)) : FnOk P w K mg base CX0 26 f fd ["tree", "move"] (spMoved nm n) := by
  refine F.ok sc_moved (fun vs H Q E h => ?_) (fun cdv A outer s H vs Q E hr h => ?_)
  · obtain ⟨t, ⟨v, u, rfl, _⟩, _⟩ := h; rfl
  · obtain ⟨⟨T, S, R, P0, T'⟩, ⟨v, u, rfl, hv, hu', hw, hm⟩, q⟩ := h
    simp only at hv hu' hw hm
    refine ⟨_, PSs.nox (pss_one (ps_ret (pe_cal c_led (hr.mono (by first | decide | omega)) (pa_cons (pv 0) (pa_cons (pe_lst (pa_cons (pv 1) pa_nil)) pa_nil))))), ?_⟩
    refine r_ret (gv_use (gv_call2 (R := fun H r => TrV nm H r T') (Rb := fun H r => LstV (MvV nm) H r [(nmS S, nmS P0)]) (gv_var (R := fun H r => TrV nm H r T) rfl hv) (fun H2 s2 Q' q' => r_lst1 (r_var rfl ⟨one_line, fun p hp => q' _ _ (same_new hp _) ⟨p, _, rfl, upd_same, .cons (tm_mv.same (s2.trans (same_new hp _)) hu') .nil⟩⟩)) fun x y H1 H2 s1 rx s2 ry => ⟨(T, [(nmS S, nmS P0)], T'), ⟨x, y, rfl, tm_tr.same s2 rx, ry, hw, .cons hm .nil, by simp⟩, fun r H3 s3 z => z⟩) q)
end
end Jw
end

section
set_option Elab.async false
set_option linter.all false
set_option maxRecDepth 100000
set_option maxHeartbeats 4000000
/-! free_lot, nodes_above, met_above, one_lot. -/
namespace Jt
open Jt.Tr
section
variable {n : Nat} {t T G : Tr} {p : Nat → Bool} {L : List (List Nat)}
theorem mem_anc : ∀ {t N : Tr}, t.ok → mt p t = true → (N ∈ anc p t ↔ N ∈ t.subs ∧ hd p t ∈ N.subs ∧ N ≠ hd p t)
  | lf i, N, _, _ => by
    have e0 : anc p (lf i) = [] := rfl
    have e1 : hd p (lf i) = lf i := rfl
    rw [e0, e1]
    simp only [List.not_mem_nil, Tr.subs, List.mem_singleton, false_iff]
    rintro ⟨h, _, k⟩
    exact k h
  | fk a b, N, hok, hm => by
    have hab := ok_disj hok
    cases ha : mt p a with
    | true =>
      cases hb : mt p b with
      | true =>
        rw [anc_both ha hb, hd_both ha hb]
        simp only [List.not_mem_nil, false_iff]
        rintro ⟨h, k, e⟩
        rcases sub_fk.mp h with z | z | z
        · exact e z
        · exact not_sub_l (sub_trans k z)
        · exact not_sub_r (sub_trans k z)
      | false =>
        rw [anc_l ha hb, hd_l ha hb, List.mem_append, List.mem_singleton, mem_anc hok.1 ha]
        constructor
        · rintro (⟨h1, h2, h3⟩ | rfl)
          · exact ⟨sub_fk.mpr (.inr (.inl h1)), h2, h3⟩
          · exact ⟨self_sub _, sub_fk.mpr (.inr (.inl hd_sub)), fun e => not_sub_l (e ▸ hd_sub)⟩
        · rintro ⟨h1, h2, h3⟩
          rcases sub_fk.mp h1 with z | z | z
          · exact .inr z
          · exact .inl ⟨z, h2, h3⟩
          · exact (hab _ (sub_nm (hd_sub (p := p)) _ (fst_mem (hd p a))) (sub_nm z _ (sub_nm h2 _ (fst_mem _)))).elim
    | false =>
      have hb : mt p b = true := by rw [mt_fk, ha] at hm; simpa using hm
      rw [anc_r ha hb, hd_r ha, List.mem_append, List.mem_singleton, mem_anc hok.2.1 hb]
      constructor
      · rintro (⟨h1, h2, h3⟩ | rfl)
        · exact ⟨sub_fk.mpr (.inr (.inr h1)), h2, h3⟩
        · exact ⟨self_sub _, sub_fk.mpr (.inr (.inr hd_sub)), fun e => not_sub_r (e ▸ hd_sub)⟩
      · rintro ⟨h1, h2, h3⟩
        rcases sub_fk.mp h1 with z | z | z
        · exact .inr z
        · exact (hab _ (sub_nm z _ (sub_nm h2 _ (fst_mem _))) (sub_nm (hd_sub (p := p)) _ (fst_mem (hd p b)))).elim
        · exact .inl ⟨z, h2, h3⟩
theorem nm_len_sub {S : Tr} : ∀ {t : Tr}, S ∈ t.subs → S.nm.length ≤ t.nm.length
  | lf i, h => by simp [Tr.subs] at h; subst h; exact Nat.le_refl _
  | fk a b, h => by
    simp only [Tr.nm, List.length_append]
    rcases sub_fk.mp h with e | h | h
    · subst e; simp [Tr.nm]
    · have := nm_len_sub h; omega
    · have := nm_len_sub h; omega
theorem nm_pos (t : Tr) : 1 ≤ t.nm.length := List.length_pos_of_mem (fst_mem t)
theorem anc_lt : ∀ t : Tr, (anc p t).Pairwise fun M N => M.nm.length < N.nm.length
  | lf i => .nil
  | fk a b => by
    have ha := nm_pos a
    have hb := nm_pos b
    rw [anc_fk]
    split
    · exact .nil
    · split
      · refine List.pairwise_append.mpr ⟨anc_lt a, List.pairwise_singleton _ _, fun M hM N hN => ?_⟩
        rw [List.mem_singleton.mp hN]
        have := nm_len_sub (anc_sub hM)
        simp only [Tr.nm, List.length_append]; omega
      · refine List.pairwise_append.mpr ⟨anc_lt b, List.pairwise_singleton _ _, fun M hM N hN => ?_⟩
        rw [List.mem_singleton.mp hN]
        have := nm_len_sub (anc_sub hM)
        simp only [Tr.nm, List.length_append]; omega
theorem sub_iff {S R : Tr} (ht : t.ok) (hS : S ∈ t.subs) (hR : R ∈ t.subs) : (∀ x ∈ R.nm, x ∈ S.nm) ↔ R ∈ S.subs := by
  constructor
  · intro h
    rcases sub_nest ht hR hS R.fst (fst_mem R) (h _ (fst_mem R)) with k | k
    · exact k
    · rw [sub_whole (sub_ok ht hR) k h]; exact self_sub _
  · exact fun h => sub_nm h
/-- the nodes above a lot's head, sorted by their number of names -/
theorem above_eq (ht : G.ok) (hN : Nodes G L) (hm : mt p G = true) {zs : List (List Nat)} (pm : zs.Perm (L.filter fun N => decide (N ≠ nmS (hd p G)) && (nmS (hd p G)).all fun x => decide (x ∈ N))) (sr : zs.Pairwise fun a b => a.length ≤ b.length) : zs = (anc p G).map nmS := by
  have hlen : ∀ N ∈ anc p G, (nmS N).length = N.nm.length := fun N h => (nmS_perm (sub_ok ht (anc_sub h))).length_eq
  have hpw : ((anc p G).map nmS).Pairwise fun a b => a.length < b.length := List.pairwise_map.mpr ((anc_lt G).imp_of_mem fun {a b} ha hb h => by rw [hlen a ha, hlen b hb]; exact h)
  have hnd : ((anc p G).map nmS).Nodup := hpw.imp fun {a b} h e => by rw [e] at h; exact Nat.lt_irrefl _ h
  have hmem : ∀ z, z ∈ zs ↔ z ∈ (anc p G).map nmS := fun z => by
    rw [pm.mem_iff, List.mem_filter, hN.mem, List.mem_map, Bool.and_eq_true, decide_eq_true_iff, List.all_eq_true]
    constructor
    · rintro ⟨⟨S, hS, rfl⟩, h1, h2⟩
      refine ⟨S, (mem_anc ht hm).mpr ⟨hS, (sub_iff ht hS hd_sub).mp fun x hx => mem_nmS.mp (of_decide_eq_true (h2 x (mem_nmS.mpr hx))), fun e => h1 (by rw [e])⟩, rfl⟩
    · rintro ⟨S, hS, rfl⟩
      obtain ⟨h1, h2, h3⟩ := (mem_anc ht hm).mp hS
      exact ⟨⟨S, h1, rfl⟩, fun e => h3 (nmS_inj ht h1 hd_sub e), fun x hx => decide_eq_true (mem_nmS.mpr (sub_nm h2 x (mem_nmS.mp hx)))⟩
  have pz : zs.Nodup := pm.nodup_iff.mpr (hN.nd.filter _)
  refine List.Perm.eq_of_pairwise (le := fun a b => a.length ≤ b.length) (fun a b ha hb h1 h2 => ?_) sr (hpw.imp fun {a b} h => Nat.le_of_lt h) ((List.perm_ext_iff_of_nodup pz hnd).mpr hmem)
  rcases Classical.em (a = b) with e | e
  · exact e
  · have := pw_mem (R := fun a b : List Nat => a.length ≠ b.length) (fun a b h => Ne.symm h) (hpw.imp fun {a b} h => Nat.ne_of_lt h) ((hmem a).mp ha) hb e
    exact (this (Nat.le_antisymm h1 h2)).elim
theorem filt_head (k : L.Nodup) : True := trivial
end
end Jt
namespace Jw
open PySem PySem.Spec PyProof.Rows L2 Jt JH
section
variable {P : Program} {w : World} {K : PySem.W.Frag} {mg : Str → Option Value} {base : Heap} {f : Addr} {fd : FuncData} {nm : Nat → Str} {n : Nat}
theorem r_seqI {t u : TS} {D : Ends} {σ : L2.St} {H : Hp} (I : L2.St → Hp → Prop) (h1 : ∀ nx' : L2.St → Hp → Prop, (∀ σ H, I σ H → nx' σ H) → t { D with nx := nx' } σ H) (h2 : ∀ σ H, I σ H → u D σ H) : tSeq t u D σ H := h1 (u D) h2
theorem gt_and2 {tt tu : TT} {σ : L2.St} {H : Hp} {b c : Bool} (h : Gt tt σ H b) (k : b = true → ∀ H1, Same H H1 → Gt tu σ H1 c) : Gt (tAnd tt tu) σ H (b && c) := fun Q q => h _ fun H1 s1 => by
  cases b with
  | true => exact iteT (k rfl H1 s1 _ fun H2 s2 => q H2 (s1.trans s2))
  | false => exact iteF (q H1 s1)
theorem zip_of {α : Type} {R : Hp → V → α → Prop} {H : Hp} {xs : List V} {as : List α} (h : P2 (R H) xs as) : (∀ z ∈ xs.zip as, R H z.1 z.2) ∧ (xs.zip as).map (·.2) = as := by
  induction h with
  | nil => exact ⟨fun z h => by simp at h, rfl⟩
  | cons r _ ih =>
    refine ⟨fun z hz => ?_, by simp [ih.2]⟩
    rcases List.mem_cons.mp hz with e | hz
    · rw [e]; exact r
    · exact ih.1 z hz
theorem p2_of {α : Type} {R : Hp → V → α → Prop} {H : Hp} {w : List (V × α)} (h : ∀ z ∈ w, R H z.1 z.2) : P2 (R H) (w.map (·.1)) (w.map (·.2)) := by
  induction w with
  | nil => exact .nil
  | cons a w ih => exact .cons (h a List.mem_cons_self) (ih fun z hz => h z (List.mem_cons_of_mem _ hz))
/-! ### free_lot -/
def spFree (nm : Nat → Str) (n : Nat) : Sp := Pur (ι := Tr × List (List Nat)) (fun i vs H => ∃ v u, vs = [v, u] ∧ TrV nm H v i.1 ∧ TupV (LotV nm) H u i.2 ∧ Wf n i.1 ∧ (∀ l ∈ i.2, ∀ x ∈ l, x < n) ∧ i.2.length ≤ 100 ∧ ∃ S ∈ i.1.subs, nmS S ∈ i.2) (fun i _ H r => ∃ S ∈ i.1.subs, nmS S ∈ i.2 ∧ LotV nm H r (nmS S))
theorem sc_free_lot : FnScope ["tree", "others", "nodes", "lot"] ["tree", "others"] (defScope s_free_lot) := ⟨rfl, rfl, rfl, by decide +kernel, rfl, by decide +kernel, by decide +kernel⟩
theorem ok_free_lot (F : FnD K "free_lot" s_free_lot f fd) (B : Bi mg) (N : Nm nm n) (c_nodes_of : Cal P w K mg base 23 "nodes_of" ["tree"] (spNodesOf nm n)) : FnOk P w K mg base CX0 24 f fd ["tree", "others"] (spFree nm n) := by
  refine F.ok sc_free_lot (fun vs H Q E h => ?_) (fun cdv A outer s H vs Q E hr h => ?_)
  · obtain ⟨t, ⟨v, u, rfl, _⟩, _⟩ := h; rfl
  · obtain ⟨⟨T, o⟩, ⟨v, u, rfl, hv, hu', hw, hlt, hlen, S, hS, hSo⟩, q⟩ := h
    simp only at hv hu' hw hlt hlen hS hSo
    have hu1 := units65 hr
    refine ⟨_, PSs.nox (pss_cons (ps_set (i := 2) sc_free_lot.nd rfl (by first | exact Or.inl rfl | exact Or.inr rfl) (pe_cal c_nodes_of (hr.mono (by first | decide | omega)) (pa_cons (pv 0) pa_nil)))
      (pss_one (ps_ret (pe_ix (ixL K) (pe_lc (own := [("lot", 3)]) rfl sc_free_lot.nd (piT K (pv 1)) (blkOk_by (N := ["tree", "others", "nodes", "lot"]) (sc := defScope s_free_lot) (by decide +kernel)) (fun _ _ _ _ _ => (pg_name (i := 3) sc_free_lot.nd rfl (by first | exact Or.inl rfl | exact Or.inr rfl))) (fun _ _ _ _ _ => pts_one (pt_cmpR (inDp K hu1) (pv 3) (pv 2) (by rfl))) (fun _ _ _ _ _ => (pv 3))) (pe_int) (fun _ _ => rfl))))), ?_⟩
    refine r_seq (r_asg (gv_use (gv_call1 (R := fun H1 r => ∃ L, Nodes T L ∧ LstN (LotV nm) H H1 r L) (gv_var rfl hv) fun x H1 s1 rx => ⟨T, ⟨x, rfl, rx, hw⟩, fun r H2 s2 ⟨L, hN, z⟩ => ⟨L, hN, z.back s1⟩⟩) fun nv H1 s1 ⟨L, hN, hL⟩ => ?_))
    refine r_ret (r_op (gv_use (gv_lcT (fun l => decide (l ∈ L)) id (fun as => as = o) (tm_lot (nm := nm)) (tm_lot (nm := nm)) (gv_var rfl ⟨_, rfl, ((tm_tup tm_lot).same s1 hu').sq⟩) (fun _ e => by rw [e]; omega) (fun _ => rfl) ?_ ?_) fun r H2 s2 ⟨_, e, p, xs, er, _, hp, rr⟩ => ?_))
    · rintro _ x c H2 rfl hc s2 rx
      refine gt_test (gv_imp (gv_inL N (fun o' => o' = L) (gv_var (R := fun H r => LotV nm H r c) rfl rx) (fun H3 s3 => gv_var (R := fun H r => ∃ o, o = L ∧ LstV (LotV nm) H r o) rfl ⟨L, rfl, hL.l.same tm_lot (s2.trans s3)⟩) (hlt c hc) (fun o e => by rw [e]; exact hN.lt hw)) fun r H3 _ ⟨o', e, h⟩ => by rw [h, e])
    · rintro _ x c H2 rfl hc s2 rx _
      exact gv_var rfl rx
    · rw [e, List.map_id] at rr
      have hmem : nmS S ∈ o.filter fun l => decide (l ∈ L) := List.mem_filter.mpr ⟨hSo, decide_eq_true ((hN.mem _).mpr ⟨S, hS, rfl⟩)⟩
      generalize hF : (o.filter fun l => decide (l ∈ L)) = F' at rr hmem
      cases rr with
      | nil => cases hmem
      | @cons x0 l0 xs0 F0 r0 _ =>
      have h0 : l0 ∈ o.filter fun l => decide (l ∈ L) := by rw [hF]; exact List.mem_cons_self
      obtain ⟨h1, h2⟩ := List.mem_filter.mp h0
      obtain ⟨S0, hS0, rfl⟩ := (hN.mem _).mp (of_decide_eq_true h2)
      exact r_c ⟨p, _, _, x0, er, rfl, SqL.of hp, atI_nat (j := 0) rfl, q _ _ (s1.trans s2) ⟨S0, hS0, h1, r0⟩⟩
/-! ### one_lot -/
def spOneLot (nm : Nat → Str) (n : Nat) : Sp := Pur (ι := List Nat × List Nat) (fun i vs H => ∃ v u, vs = [v, u] ∧ LotV nm H v i.1 ∧ LotV nm H u i.2 ∧ (i.1 ++ i.2).Nodup ∧ (∀ x ∈ i.1 ++ i.2, x < n)) (fun i _ H r => ∃ M, M.Pairwise (· < ·) ∧ (∀ x, x ∈ M ↔ x ∈ i.1 ∨ x ∈ i.2) ∧ LotV nm H r M)
theorem sc_one_lot : FnScope ["lot", "mate"] ["lot", "mate"] (defScope s_one_lot) := ⟨rfl, rfl, rfl, by decide +kernel, rfl, by decide +kernel, by decide +kernel⟩
theorem ok_one_lot (F : FnD K "one_lot" s_one_lot f fd) (B : Bi mg) (N : Nm nm n) : FnOk P w K mg base CX0 1 f fd ["lot", "mate"] (spOneLot nm n) := by
  refine F.ok sc_one_lot (fun vs H Q E h => ?_) (fun cdv A outer s H vs Q E hr h => ?_)
  · obtain ⟨t, ⟨v, u, rfl, _⟩, _⟩ := h; rfl
  · obtain ⟨⟨l, m⟩, ⟨v, u, rfl, hv, hu', hnd, hlt⟩, q⟩ := h
    simp only at hv hu' hnd hlt
    have hu := hr.units
    refine ⟨_, PSs.nox (pss_one (ps_ret (pe_callTy (tupQ K) (by rfl) B.tuple boot_tuple (pa_cons (pe_callB (sortQ K hu) (by rfl) B.sorted boot_sorted (pa_cons (pe_op (catA K) (pv 0) (pv 1)) pa_nil)) pa_nil)))), ?_⟩
    have hlen := len_lt hnd hlt
    have hfw := N.few
    refine r_ret (gv_use (gv_tupOf (K := K) (fun bs => bs.Perm (l ++ m) ∧ Srt (dN nm) bs) (tm_nm (nm := nm)) (gv_imp (gv_sorted (d := dN nm) (fun as => as = l ++ m) (tm_nm (nm := nm)) (gv_imp (gv_catLot (gv_var (R := fun H r => LotV nm H r l) rfl hv) (fun H1 s1 => gv_var (R := fun H r => LotV nm H r m) rfl (tm_lot.same s1 hu')) (by rw [List.length_append] at hlen; omega)) fun r H1 s1 z => ⟨_, rfl, (lot_tup.mp z).sq.q⟩) (fun as v a H1 _ _ r => dp_nm r) (fun as _ => alike_dN as) (fun as _ => sortable_dN as) (fun as _ a _ => by simp [PyData.depth])) fun r H4 s4 ⟨as, bs, e, pm, sr, hb⟩ => ⟨bs, ⟨by rw [← e]; exact pm, sr⟩, hb.l⟩)) fun r H1 s1 ⟨bs, ⟨pm, sr⟩, z⟩ => q _ _ s1 ⟨bs, srt_names N (fun x hx => hlt x (pm.mem_iff.mp hx)) (pm.nodup_iff.mpr hnd) sr, fun x => by rw [pm.mem_iff, List.mem_append], lot_tup.mpr z⟩)
/-! ### nodes_above -/
def spAbove (nm : Nat → Str) (n : Nat) : Sp := Pur (ι := Tr × List (List Nat) × List Nat) (fun i vs H => ∃ v u, vs = [v, u] ∧ LstV (LotV nm) H v i.2.1 ∧ LotV nm H u i.2.2 ∧ Wf n i.1 ∧ Nodes i.1 i.2.1 ∧ i.2.2 ≠ [] ∧ i.2.2.length ≤ 100 ∧ ∀ x ∈ i.2.2, x ∈ i.1.nm) (fun i H0 H r => LstN (LotV nm) H0 H r ((anc (el i.2.2) i.1).map nmS))
theorem sc_nodes_above : FnScope ["nodes", "lot", "head", "node"] ["nodes", "lot"] (defScope s_nodes_above) := ⟨rfl, rfl, rfl, by decide +kernel, rfl, by decide +kernel, by decide +kernel⟩
theorem ok_nodes_above (F : FnD K "nodes_above" s_nodes_above f fd) (B : Bi mg) (N : Nm nm n) (c_head_of : Cal P w K mg base 2 "head_of" ["nodes", "lot"] (spHeadOf nm n)) (c_has_all : Cal P w K mg base 1 "has_all" ["lot", "names"] (spHasAll nm n)) : FnOk P w K mg base CX0 3 f fd ["nodes", "lot"] (spAbove nm n) := by
  refine F.ok sc_nodes_above (fun vs H Q E h => ?_) (fun cdv A outer s H vs Q E hr h => ?_)
  · obtain ⟨t, ⟨v, u, rfl, _⟩, _⟩ := h; rfl
  · obtain ⟨⟨G, L, l⟩, ⟨v, u, rfl, hv, hu', hw, hN, hne, hlen, hsub⟩, q⟩ := h
    simp only at hv hu' hw hN hne hlen hsub
    have hu := hr.units
    refine ⟨_, PSs.nox (pss_cons (ps_set (i := 2) sc_nodes_above.nd rfl (by first | exact Or.inl rfl | exact Or.inr rfl) (pe_cal c_head_of (hr.mono (by first | decide | omega)) (pa_cons (pv 0) (pa_cons (pv 1) pa_nil))))
      (pss_one (ps_ret (pe_keyLen (sortLenQ K hu) (by rfl) B.sorted boot_sorted (by rfl) B.len (pa_cons (pe_lc (own := [("node", 3)]) rfl sc_nodes_above.nd (piL K (pv 0)) (blkOk_by (N := ["nodes", "lot", "head", "node"]) (sc := defScope s_nodes_above) (by decide +kernel)) (fun _ _ _ _ _ => (pg_name (i := 3) sc_nodes_above.nd rfl (by first | exact Or.inl rfl | exact Or.inr rfl))) (fun _ _ _ _ _ => pts_one ((pw_and (pt_cmpR (neD K hu) (pv 3) (pv 2) (by rfl)) (pw_and1 (pt_val (pe_cal c_has_all (hr.mono (by first | decide | omega)) (pa_cons (pv 3) (pa_cons (pv 2) pa_nil)))))).pt)) (fun _ _ _ _ _ => (pv 3))) pa_nil))))), ?_⟩
    have hLl := hN.len
    have h9 := hw.sz N.few
    have hfw := N.few
    have wH := hw.sub (hd_sub (p := el l) (t := G))
    have hHl := wH.lenS
    refine r_seq (r_asg (gv_use (gv_call2 (R := fun H1 r => LotV nm H1 r (nmS (hd (el l) G))) (gv_var (R := fun H r => LstV (LotV nm) H r L) rfl hv) (fun H3 s3 => gv_var (R := fun H r => LotV nm H r l) rfl (tm_lot.same s3 hu')) fun x y H3 H4 s3 rx s4 ry => ⟨(G, L, l), ⟨x, y, rfl, rx.same tm_lot s4, ry, hw, hN, hne, hlen, hsub⟩, fun r H5 s5 z => z⟩) fun hv2 H1 s1 hh => ?_))
    refine r_ret (r_b1 (gv_use (gv_lcL (fun N => decide (N ≠ nmS (hd (el l) G)) && (nmS (hd (el l) G)).all fun x => decide (x ∈ N)) id (fun as => as = L) (tm_lot (nm := nm)) (tm_lot (nm := nm)) (gv_var rfl ⟨_, rfl, (hv.same tm_lot s1).sq⟩) (fun _ e => by rw [e]; omega) (fun _ => rfl) ?_ ?_) fun r H2 s2 ⟨_, e, p, xs, er, _, hp, rr⟩ => ?_))
    · rintro _ x c H2 rfl hc s2 rx
      have hcl := hN.few hw c hc
      have hcn := hN.lt hw c hc
      refine gt_and2 (gt_test (gv_imp (gv_neD (da := dL nm c) (db := dL nm (nmS (hd (el l) G))) (gv_var (R := fun H r => LotV nm H r c) rfl rx) (fun H3 s3 => gv_var (R := fun H r => LotV nm H r (nmS (hd (el l) G))) rfl (tm_lot.same (s2.trans s3) hh)) (fun x y H3 H4 s3 rx s4 ry => ⟨dp_lot (tm_lot.same s4 rx), dp_lot ry⟩) (sh_dL N hcn) (sh_dL N fun x hx => wH.lt x (mem_nmS.mp hx))) fun r H3 _ e => ?_)) (fun _ H3 s3 => gt_gv fun Q' q' => r_call2 (r_var rfl (r_var rfl ⟨x, hv2, c, nmS (hd (el l) G), rfl, tm_lot.same s3 rx, tm_lot.same (s2.trans s3) hh, hcn, fun x hx => wH.lt x (mem_nmS.mp hx), by omega, by omega, fun H4 s4 => q' _ _ s4 rfl⟩)))
      · rw [e]
        refine congrArg V.bl ?_
        rw [bool_iff (eqv_dL N hcn fun x hx => wH.lt x (mem_nmS.mp hx))]
        by_cases h : c = nmS (hd (el l) G) <;> simp [h]
    · rintro _ x c H2 rfl hc s2 rx _
      exact gv_var rfl rx
    · rw [e, List.map_id] at rr
      refine ⟨p, xs, _, by rw [er], SqL.of hp, tlens rr, fun p2 zs pm sr hp2 => ?_⟩
      have ez : xs.zip ((L.filter fun N => decide (N ≠ nmS (hd (el l) G)) && (nmS (hd (el l) G)).all fun x => decide (x ∈ N)).map List.length) = (xs.zip (L.filter fun N => decide (N ≠ nmS (hd (el l) G)) && (nmS (hd (el l) G)).all fun x => decide (x ∈ N))).map fun z => (z.1, z.2.length) := by
        rw [List.zip_map_right]; rfl
      rw [ez] at pm
      obtain ⟨w', pw, rfl⟩ := perm_map_ex _ pm
      obtain ⟨hz1, hz2⟩ := zip_of rr
      have hbs : w'.map (·.2) = (anc (el l) G).map nmS := above_eq hw.ok hN (mtl hsub hne) (by rw [← hz2]; exact pw.map _) (by
        rw [List.pairwise_map] at sr ⊢
        exact sr)
      refine q _ _ ((s1.trans s2).trans (same_new hp2 _)) ⟨p2, w'.map (·.1), rfl, (s1.trans s2).free hp2, by rw [upd_same, List.map_map]; rfl, ?_⟩
      show P2 (LotV nm _) (w'.map (·.1)) ((anc (el l) G).map nmS)
      rw [← hbs]
      exact (p2_of fun z hz => hz1 z (pw.mem_iff.mp hz)).imp fun _ _ k => tm_lot.same (same_new hp2 _) k
/-! ### a comprehension of things that hang on lists new since its own -/
section
variable {α β : Type} {te tl : TE} {vs : List Nat} {σ : L2.St} {H : Hp} {j : Nat} {RA : Hp → V → α → Prop} {RB : Addr → Hp → V → β → Prop}
structure DM (RB : Addr → Hp → V → β → Prop) : Prop where
  sm : ∀ D H H' v b, Same H H' → RB D H v b → RB D H' v b
  up : ∀ D H ys u v b, H D = some (.lst ys) → RB D H v b → RB D (upd H D u) v b
theorem gv_lcTD (e : α → β) (Pa : List α → Prop) (mA : TM RA) (mB : DM RB) (hl : Gv tl σ H fun H1 v => ∃ as, Pa as ∧ SqTV K RA H1 v as) (hs : ∀ as, Pa as → as.length ≤ 100000)
    (hw : ∀ x, wipe ((wipe σ vs).set j (some x)) vs = wipe σ vs)
    (he : ∀ as x c D ys H2, Pa as → c ∈ as → Same H H2 → RA H2 x c → H2 D = some (.lst ys) → Gv te ((wipe σ vs).set j (some x)) H2 fun H3 y => RB D H3 y (e c)) : Gv (tLc (iTup K tl) (gName j) tYes te vs) σ H fun H1 v => ∃ as, Pa as ∧ ∃ p ys, v = .ref p ∧ H p = none ∧ H1 p = some (.lst ys) ∧ P2 (RB p H1) ys (as.map e) := fun Q q => by
  refine hl _ fun v H1 s1 ⟨as, pa, a, xs, ev, hx, hr⟩ => ⟨a, ev, ⟨xs, hx⟩, ?_⟩
  intro D hD
  have hn := hr.len
  have hsl := hs as pa
  refine lc_it (Qd := fun H => Q (.ref D) H) (walk_tup (K := K) (a := a) (xs := xs)) (fun i H => Same H1 H ∧ ∃ ys, H D = some (.lst ys) ∧ P2 (RB D H) ys ((as.take i).map e)) ⟨same_new hD _, [], upd_same, by simp; exact .nil⟩ (fun i H _ p => same_t p.1 hx) ?_ ?_
  · rintro i x H2 H3 hi ⟨s, ys, hy, r⟩ ⟨rfl, hxi⟩
    obtain ⟨c, hc, rc⟩ := hr.get hxi
    have tk : as.take (i + 1) = as.take i ++ [c] := by rw [List.take_add_one, hc]; rfl
    refine ⟨hw x, tyes_if ?_⟩
    refine he as x c D ys _ pa (List.mem_of_getElem? hc) (s1.trans s) (mA.same s rc) hy _ fun y H6 s5 hr6 => ?_
    have d6 : H6 D = some (.lst ys) := s5 _ _ hy
    have len : ys.length ≤ i := by
      rw [r.len, List.length_map, List.length_take]; omega
    refine ⟨ys, d6, ?_, same_mut (s.trans s5) hD, ys ++ [y], upd_same, ?_⟩
    · have : (100000 : Nat) ≤ sizeLine := by decide
      omega
    · rw [tk, List.map_append]
      exact (r.imp fun u b k => mB.up _ _ _ _ _ _ d6 (mB.sm _ _ _ _ _ s5 k)).app (.cons (mB.up _ _ _ _ _ _ d6 hr6) .nil)
  · rintro H2 ⟨s, ys, hy, r⟩
    rw [List.take_of_length_le (by omega)] at r
    exact q _ _ (s1.trans s) ⟨as, pa, D, ys, rfl, s1.free hD, hy, r⟩
end
/-! ### met_above -/
def WayR (nm : Nat → Str) (G : Tr) (L : List (List Nat)) (D : Addr) (H : Hp) (v : V) (c : List Nat × Bool) : Prop := ∃ p x q ys, v = .ref p ∧ H p = some (.tup [x, .ref q]) ∧ LotV nm H x c.1 ∧ q ≠ D ∧ H q = some (.lst ys) ∧ P2 (LotV nm H) ys (wayF G c.1 c.2 L)
theorem dm_way {G : Tr} {L : List (List Nat)} : DM (WayR nm G L) where
  sm := fun D H H' v b s ⟨p, x, q, ys, e, h1, h2, h3, h4, h5⟩ => ⟨p, x, q, ys, e, s _ _ h1, tm_lot.same s h2, h3, s _ _ h4, h5.imp fun _ _ k => tm_lot.same s k⟩
  up := fun D H zs u v b hD ⟨p, x, q, ys, e, h1, h2, h3, h4, h5⟩ => ⟨p, x, q, ys, e, by rw [upd_ne (fun z => by rw [z, hD] at h1; cases h1)]; exact h1, tm_lot _ _ _ _ (tups_lst hD) h2, h3, by rw [upd_ne h3]; exact h4, h5.imp fun _ _ k => tm_lot _ _ _ _ (tups_lst hD) k⟩
/-- the first node above a lot that stands in the way of another one -/
inductive Met (G : Tr) (top : List Nat) (o : List (List Nat)) (l : List Nat) : Option (List Nat × List Nat) → Prop
  | none : (∀ N ∈ anc (el l) G, ∀ m ∈ o, N ∈ wayT (el m) false G → False) → (∀ N ∈ anc (el l) G, N ∈ wayT (el top) true G → False) → Met G top o l none
  | some {pre post : List Tr} {N : Tr} {mate : List Nat} : anc (el l) G = pre ++ N :: post → (∀ N' ∈ pre, ∀ m ∈ o, N' ∈ wayT (el m) false G → False) → (∀ N' ∈ pre, N' ∈ wayT (el top) true G → False) →
    ((mate ∈ o ∧ N ∈ wayT (el mate) false G) ∨ (mate = top ∧ top ≠ [] ∧ N ∈ wayT (el top) true G)) → Met G top o l (some (mate, mate.filter fun x => decide (x ∈ nmS N)))
def OMv (nm : Nat → Str) (H : Hp) (v : V) : Option (List Nat × List Nat) → Prop
  | none => v = .non
  | some m => MvV nm H v m
def spMet (nm : Nat → Str) (n : Nat) : Sp := Pur (ι := Tr × List Nat × List (List Nat) × List Nat) (fun i vs H => ∃ v u o l, vs = [v, u, o, l] ∧ TrV nm H v i.1 ∧ LotV nm H u i.2.1 ∧ TupV (LotV nm) H o i.2.2.1 ∧ LotV nm H l i.2.2.2 ∧ Wf n i.1 ∧ LotsOk n i.1 i.2.1 i.2.2.1 ∧ i.2.2.2 ≠ [] ∧ i.2.2.2.length ≤ 100 ∧ ∀ x ∈ i.2.2.2, x ∈ i.1.nm)
  (fun i _ H r => ∃ m, Met i.1 i.2.1 i.2.2.1 i.2.2.2 m ∧ OMv nm H r m)
theorem sc_met_above : FnScope ["tree", "top", "others", "lot", "nodes", "ways", "mate", "node", "way", "name"] ["tree", "top", "others", "lot"] (defScope s_met_above) := ⟨rfl, rfl, rfl, by decide +kernel, rfl, by decide +kernel, by decide +kernel⟩
def wset (top : List Nat) (o : List (List Nat)) : List (List Nat × Bool) := o.map (fun l => (l, false)) ++ if top = [] then [] else [(top, true)]
theorem ok_met_above (F : FnD K "met_above" s_met_above f fd) (B : Bi mg) (N : Nm nm n) (c_nodes_of : Cal P w K mg base 23 "nodes_of" ["tree"] (spNodesOf nm n)) (c_nodes_above : Cal P w K mg base 3 "nodes_above" ["nodes", "lot"] (spAbove nm n)) (c_way_of : CalD P w K mg base 3 "way_of" ["nodes", "lot", "is_top"] (spWayOf nm n) [.bl false]) (k_way_of : CalK P w K mg base 3 "way_of" ["nodes", "lot", "is_top"] (spWayOf nm n) 2 ["is_top"]) :
    FnOk P w K mg base CX0 24 f fd ["tree", "top", "others", "lot"] (spMet nm n) := by
  refine F.ok sc_met_above (fun vs H Q E h => ?_) (fun cdv A outer s H vs Q E hr h => ?_)
  · obtain ⟨t, ⟨v, u, o, l, rfl, _⟩, _⟩ := h; rfl
  · obtain ⟨⟨G, top, o, l⟩, ⟨v, u, ov, lv, rfl, hv, hu', ho, hl, hw, hO, hne, hlen, hsub⟩, q⟩ := h
    simp only at hv hu' ho hl hw hO hne hlen hsub
    have hu := hr.units
    have hu1 := units65 hr
    refine ⟨_, PSs.nox (pss_cons (ps_set (i := 4) sc_met_above.nd rfl (by first | exact Or.inl rfl | exact Or.inr rfl) (pe_cal c_nodes_of (hr.mono (by first | decide | omega)) (pa_cons (pv 0) pa_nil)))
      (pss_cons (ps_setLc (own := [("mate", 6)]) (i := 5) rfl sc_met_above.nd rfl rfl (sw_true rfl rfl rfl (by decide +kernel)) (piT K (pv 2)) (blkOk_by (N := ["tree", "top", "others", "lot", "nodes", "ways", "mate", "node", "way", "name"]) (sc := defScope s_met_above) (by decide +kernel)) (fun _ _ _ _ _ => (pg_name (i := 6) sc_met_above.nd rfl (by first | exact Or.inl rfl | exact Or.inr rfl))) (fun _ _ _ _ _ => pts_nil) (fun _ _ _ _ _ => (pe_tup (pa_cons (pv 6) (pa_cons (pe_calD c_way_of (hr.mono (by first | decide | omega)) (pa_cons (pv 4) (pa_cons (pv 6) pa_nil))) pa_nil)))))
      (pss_cons (ps_if (pt_cmpR (neD K hu) (pv 1) (pe_tup pa_nil) (by rfl)) (pss_one (ps_expr (pe_bm PySem.F.plainAttrs_list PySem.F.slot_list_append PySem.F.type_list_append mt_append (pv 5) (pa_cons (pe_tup (pa_cons (pv 1) (pa_cons (pe_calK k_way_of (hr.mono (by first | decide | omega)) (pa_cons (pv 4) (pa_cons (pv 1) pa_nil)) (pk_cons (pe_bl) pk_nil)) pa_nil))) pa_nil)))) pss_nil)
      (pss_cons (ps_for PassesOwn.never rfl (piL K (pe_cal c_nodes_above (hr.mono (by first | decide | omega)) (pa_cons (pv 4) (pa_cons (pv 3) pa_nil)))) (pg_name (i := 7) sc_met_above.nd rfl (by first | exact Or.inl rfl | exact Or.inr rfl)) (pss_one (ps_for PassesOwn.never rfl (piL K (pv 5)) (pg_tup rfl (pgs_cons (pg_name (i := 6) sc_met_above.nd rfl (by first | exact Or.inl rfl | exact Or.inr rfl)) (pgs_cons (pg_name (i := 8) sc_met_above.nd rfl (by first | exact Or.inl rfl | exact Or.inr rfl)) pgs_nil))) (pss_one (ps_if (pt_cmpR (inDp K hu1) (pv 7) (pv 8) (by rfl)) (pss_one (ps_ret (pe_tup (pa_cons (pv 6) (pa_cons (pe_callTy (tupQ K) (by rfl) B.tuple boot_tuple (pa_cons (pe_lc (own := [("name", 9)]) rfl sc_met_above.nd (piT K (pv 6)) (blkOk_by (N := ["tree", "top", "others", "lot", "nodes", "ways", "mate", "node", "way", "name"]) (sc := defScope s_met_above) (by decide +kernel)) (fun _ _ _ _ _ => (pg_name (i := 9) sc_met_above.nd rfl (by first | exact Or.inl rfl | exact Or.inr rfl))) (fun _ _ _ _ _ => pts_one (pt_cmpR (inS K) (pv 9) (pv 7) (by rfl))) (fun _ _ _ _ _ => (pv 9))) pa_nil)) pa_nil))))) pss_nil)))))
      (pss_one (ps_ret (pe_non))))))), ?_⟩
    have h9 := hw.sz N.few
    have hfw := N.few
    have hol := hO.ol
    refine r_seq (r_asg (gv_use (gv_call1 (R := fun H1 r => ∃ L, Nodes G L ∧ LstN (LotV nm) H H1 r L) (gv_var rfl hv) fun x H1 s1 rx => ⟨G, ⟨x, rfl, rx, hw⟩, fun r H2 s2 ⟨L, hN, z⟩ => ⟨L, hN, z.back s1⟩⟩) fun nv H1 s1 ⟨L, hN, hL⟩ => ?_))
    have hLl := hN.len
    refine r_seq (r_asg (gv_use (gv_lcTD (RB := WayR nm G L) (fun l => (l, false)) (fun as => as = o) (tm_lot (nm := nm)) dm_way (gv_var rfl ⟨o, rfl, ((tm_tup tm_lot).same s1 ho).sq⟩) (fun _ e => by rw [e]; omega) (fun _ => rfl) ?_) fun wv H2 s2 ⟨_, e, D, ws, ew, fD, hD, rD⟩ => ?_))
    · rintro _ x c D ys H2 rfl hc s2 rx hD
      have hcc := hO.each c hc
      refine gv_pairG (Ra := fun H r => LotV nm H r c) (Rb := fun H5 r => ∃ q ys, r = .ref q ∧ q ≠ D ∧ H5 q = some (.lst ys) ∧ P2 (LotV nm H5) ys (wayF G c false L)) (gv_var rfl rx) (fun H3 s3 Q' q' => ?_) fun x y H3 H4 p s3 rx3 s4 ⟨q1, ys1, e1, n1, h1, r1⟩ hp => ⟨p, x, q1, ys1, rfl, by rw [upd_same, e1], tm_lot.same (s4.trans (same_new hp _)) rx3, n1, (same_new hp _) _ _ h1, r1.imp fun _ _ k => tm_lot.same (same_new hp _) k⟩
      exact r_callD2 (r_var rfl (r_var rfl ⟨(G, L, c, false), ⟨nv, x, rfl, hL.l.same tm_lot (s2.trans s3), tm_lot.same s3 rx, hw, hN, by show c.length ≤ 100; omega, fun y hy => hw.lt y (hcc.2.2 y hy), fun _ => ⟨hcc.1, hcc.2.2⟩⟩, fun r H4 s4 ⟨q1, ys1, e1, f1, h1, r1⟩ => q' r H4 s4 ⟨q1, ys1, e1, fun z => (by rw [z, s3 _ _ hD] at f1; cases f1), h1, r1⟩⟩))
    · rw [e] at rD
      clear e
      subst ew
      have hsl : (100000 : Nat) ≤ sizeLine := by decide
      dsimp only
      refine r_seqI (fun σ H4 => Same H1 H4 ∧ σ = [some v, some u, some ov, some lv, some nv, some (.ref D), none, none, none, none] ∧ ∃ ws', H4 D = some (.lst ws') ∧ P2 (WayR nm G L D H4) ws' (wset top o)) (fun nx' hnx => ?_) ?_
      · refine r_if (gt_use (b := decide (top ≠ [])) (gt_test (gv_neU N (gv_var (R := fun H r => LotV nm H r top) rfl (tm_lot.same (s1.trans s2) hu')) hO.tl.2)) fun H3 s3 => ?_)
        have hD3 := s3 _ _ hD
        have rD3 := rD.imp fun v b k => dm_way.sm _ _ _ v b s3 k
        have wl := rD.len
        rw [List.length_map] at wl
        by_cases ht : top = []
        · rw [decide_eq_false (fun z => z ht)]
          refine iteF (r_next (hnx _ _ ⟨s2.trans s3, rfl, ws, hD3, ?_⟩))
          unfold wset
          rw [if_pos ht, List.append_nil]; exact rD3
        · rw [decide_eq_true ht]
          refine iteT (r_append (p := D) (Ry := fun H y => WayR nm G L D H y (top, true)) rfl hD3 (by omega) (gv_pairG (Ra := fun H r => LotV nm H r top) (Rb := fun H5 r => ∃ q ys, r = .ref q ∧ q ≠ D ∧ H5 q = some (.lst ys) ∧ P2 (LotV nm H5) ys (wayF G top true L)) (gv_var rfl (tm_lot.same ((s1.trans s2).trans s3) hu')) (fun H4 s4 Q' q' => ?_) fun x y H3 H4 p s3 rx3 s4 ⟨q1, ys1, e1, n1, h1, r1⟩ hp => ⟨p, x, q1, ys1, rfl, by rw [upd_same, e1], tm_lot.same (s4.trans (same_new hp _)) rx3, n1, (same_new hp _) _ _ h1, r1.imp fun _ _ k => tm_lot.same (same_new hp _) k⟩) fun y H4 s4 ry => hnx _ _ ⟨same_mut ((s2.trans s3).trans s4) fD, rfl, _, upd_same, ?_⟩)
          · exact r_callK21 (r_var rfl (r_var rfl (r_c ⟨rfl, rfl, (G, L, top, true), ⟨nv, u, rfl, hL.l.same tm_lot ((s2.trans s3).trans s4), tm_lot.same (((s1.trans s2).trans s3).trans s4) hu', hw, hN, Nat.le_trans hO.tl.1 (by omega), hO.tl.2, fun z => by cases z⟩, fun r H5 s5 ⟨q1, ys1, e1, f1, h1, r1⟩ => q' r H5 s5 ⟨q1, ys1, e1, fun z => (by rw [z, s4 _ _ hD3] at f1; cases f1), h1, r1⟩⟩)))
          · have hD4 := s4 _ _ hD3
            unfold wset
            rw [if_neg ht]
            exact (rD3.imp fun v b k => dm_way.up _ _ _ _ v b hD4 (dm_way.sm _ _ _ v b s4 k)).app (.cons (dm_way.up _ _ _ _ _ _ hD4 ry) .nil)
      · rintro σ H4 ⟨s4, rfl, ws', hD4, rW⟩
        have hlw : ∀ c ∈ wset top o, (∀ x ∈ c.1, x < n) ∧ (c.2 = false → c.1 ≠ [] ∧ ∀ x ∈ c.1, x ∈ G.nm) := fun c hc => by
          rcases List.mem_append.mp hc with h | h
          · obtain ⟨m, hm, rfl⟩ := List.mem_map.mp h
            have := hO.each m hm
            exact ⟨fun x hx => hw.lt x (this.2.2 x hx), fun _ => ⟨this.1, this.2.2⟩⟩
          · by_cases ht : top = []
            · rw [if_pos ht] at h; cases h
            · rw [if_neg ht] at h
              rw [List.mem_singleton.mp h]
              exact ⟨hO.tl.2, fun z => by cases z⟩
        have hin : ∀ c, c ∈ wset top o → (c.1 ∈ o ∧ c.2 = false) ∨ (c.1 = top ∧ top ≠ [] ∧ c.2 = true) := fun c hc => by
          rcases List.mem_append.mp hc with h | h
          · obtain ⟨m, hm, rfl⟩ := List.mem_map.mp h
            exact .inl ⟨hm, rfl⟩
          · by_cases ht : top = []
            · rw [if_pos ht] at h; cases h
            · rw [if_neg ht] at h
              rw [List.mem_singleton.mp h]
              exact .inr ⟨rfl, ht, rfl⟩
        have hno : ∀ A : List Tr, (∀ N ∈ A, ∀ c ∈ wset top o, N ∈ wayT (el c.1) c.2 G → False) → (∀ N ∈ A, ∀ m ∈ o, N ∈ wayT (el m) false G → False) ∧ ∀ N ∈ A, N ∈ wayT (el top) true G → False := fun A h => by
          refine ⟨fun N hN m hm => h N hN (m, false) (List.mem_append_left _ (List.mem_map.mpr ⟨m, hm, rfl⟩)), fun N hN hk => ?_⟩
          by_cases ht : top = []
          · obtain ⟨_, hmt⟩ := way_open.mp hk
            obtain ⟨x, _, hx⟩ := mt_true.mp hmt
            rw [ht] at hx
            simp at hx
          · exact h N hN (top, true) (List.mem_append_right _ (by rw [if_neg ht]; exact List.mem_singleton.mpr rfl)) hk
        refine r_seq (r_forL (gv_use (gv_call2 (R := fun H2 r => LstN (LotV nm) H4 H2 r ((anc (el l) G).map nmS)) (gv_var (R := fun H r => LstV (LotV nm) H r L) rfl (hL.l.same tm_lot s4)) (fun H5 s5 => gv_var (R := fun H r => LotV nm H r l) rfl (tm_lot.same ((s1.trans s4).trans s5) hl)) fun x y H5 H6 s5 rx s6 ry => ⟨(G, L, l), ⟨x, y, rfl, rx.same tm_lot s6, ry, hw, hN, hne, hlen, hsub⟩, fun r H7 s7 z => z.back (s5.trans s6)⟩) fun av H5 s5 ⟨pa, xs, ea, _, hpa, ra⟩ => ⟨pa, ea, ⟨xs, SqL.of hpa⟩, ?_⟩))
        have hxl := ra.len
        rw [List.length_map] at hxl
        have s15 := s4.trans s5
        have s05 := s1.trans s15
        have rW5 := rW.imp fun v b k => dm_way.sm _ _ _ v b s5 k
        have hD5 := s5 _ _ hD4
        refine for_it (walk_list (K := K) (a := pa) (xs := xs)) (fun i σ H' => Same H5 H' ∧ (∃ a b c d, σ = [some v, some u, some ov, some lv, some nv, some (.ref D), a, b, c, d]) ∧ ∀ N ∈ (anc (el l) G).take i, ∀ c ∈ wset top o, N ∈ wayT (el c.1) c.2 G → False) ⟨Same.refl _, ⟨_, _, _, _, rfl⟩, fun N h => by simp at h⟩ (fun i σ H' _ p => p.1.seq (SqL.of hpa)) ?_ ?_
        · rintro i xn σ H6 H7 hi ⟨s6, ⟨a, b, c, d, rfl⟩, hno1⟩ ⟨rfl, hxi⟩
          obtain ⟨NS, hNS, rN⟩ := ra.get hxi
          rw [List.getElem?_map] at hNS
          obtain ⟨N0, hN0, rfl⟩ : ∃ N0, (anc (el l) G)[i]? = some N0 ∧ nmS N0 = NS := by
            cases h : (anc (el l) G)[i]? with
            | none => rw [h] at hNS; cases hNS
            | some z => rw [h] at hNS; exact ⟨z, rfl, Option.some.inj hNS⟩
          have hN0m : N0 ∈ anc (el l) G := List.mem_of_getElem? hN0
          have hN0s := anc_sub hN0m
          have wN0 := hw.sub hN0s
          refine r_forL (r_var rfl ⟨D, rfl, ⟨ws', SqL.of (s6 _ _ hD5)⟩, ?_⟩)
          have hwl := rW.len
          refine for_it (walk_list (K := K) (a := D) (xs := ws')) (fun j σ H' => Same H5 H' ∧ (∃ a c d, σ = [some v, some u, some ov, some lv, some nv, some (.ref D), a, some xn, c, d]) ∧ ∀ c ∈ (wset top o).take j, N0 ∈ wayT (el c.1) c.2 G → False) ⟨s6, ⟨_, _, _, rfl⟩, fun N h => by simp at h⟩ (fun i σ H' _ p => p.1.seq (SqL.of hD5)) ?_ ?_
          · rintro j xw σ H6 H7 hj ⟨s6, ⟨a, c, d, rfl⟩, hno2⟩ ⟨rfl, hxj⟩
            obtain ⟨⟨m, bb⟩, hm, p, x, q1, ys, rfl, hp, hx, hqD, hq, hys⟩ := rW5.get hxj
            simp only at hx hys
            have hmw : (m, bb) ∈ wset top o := List.mem_of_getElem? hm
            have hlm := hlw _ hmw
            simp only at hlm
            have hwF := mem_wayF hw.ok hN hlm.2 hN0s
            refine ⟨p, [x, .ref q1], rfl, SqT.of (s6 _ _ hp), rfl, _, _, rfl, _, _, rfl, rfl, ?_⟩
            refine r_if (gt_use (b := decide (nmS N0 ∈ wayF G m bb L)) (gt_test (gv_imp (gv_inL N (fun o' => o' = wayF G m bb L) (gv_var (R := fun H r => LotV nm H r (nmS N0)) rfl (tm_lot.same s6 rN)) (fun H8 s8 => gv_var (R := fun H r => ∃ o', o' = wayF G m bb L ∧ LstV (LotV nm) H r o') rfl ⟨_, rfl, q1, ys, rfl, (s6.trans s8) _ _ hq, hys.imp fun _ _ k => tm_lot.same (s6.trans s8) k⟩) (fun x hx => wN0.lt x (mem_nmS.mp hx)) (fun o' e => by rw [e]; exact fun m' hm' => hN.lt hw m' (wayF_sub m' hm'))) fun r H8 _ ⟨o', e, h⟩ => by rw [h, e])) fun H8 s8 => ?_)
            by_cases hk : nmS N0 ∈ wayF G m bb L
            · rw [decide_eq_true hk]
              have hkT := hwF.mp hk
              have s08 := (s05.trans s6).trans s8
              have hml : m.length ≤ 100 := by
                rcases hin _ hmw with ⟨h1, _⟩ | ⟨h1, _⟩
                · have := (hO.each m h1).2.1; omega
                · have := hO.tl.1; simp only at h1; rw [h1]; omega
              refine iteT (r_ret (gv_use (gv_pair (a := m) (b := m.filter fun x => decide (x ∈ nmS N0)) (tm_lot (nm := nm)) (tm_lot (nm := nm)) (gv_var (R := fun H r => LotV nm H r m) rfl (tm_lot.same (s6.trans s8) hx)) (fun H9 s9 => gv_imp (gv_tupOf (K := K) (fun as => as = m.filter fun x => decide (x ∈ nmS N0)) (tm_nm (nm := nm)) (gv_imp (gv_lcT (fun x => decide (x ∈ nmS N0)) id (fun as => as = m) (tm_nm (nm := nm)) (tm_nm (nm := nm)) (gv_var (R := fun H r => ∃ as, as = m ∧ SqTV K (NmV nm) H r as) rfl ⟨_, rfl, (lot_tup.mp (tm_lot.same ((s6.trans s8).trans s9) hx)).sq⟩) (fun _ e => by rw [e]; omega) (fun _ => rfl) ?_ ?_) fun r H1 s1 ⟨as, e, z⟩ => ⟨_, rfl, ?_⟩)) fun r H1 s1 ⟨_, e, z⟩ => by rw [e] at z; exact lot_tup.mpr z)) fun r H9 s9 z => q _ _ (s08.trans s9) ⟨_, .some (N := N0) (pre := (anc (el l) G).take i) (post := (anc (el l) G).drop (i + 1)) (mate := m) ?_ (hno _ hno1).1 (hno _ hno1).2 ?_, z⟩))
              · rintro _ x1 c1 H10 rfl hc s10 rx
                refine gt_test fun Q' q' => ?_
                obtain ⟨a1, e1, ha1⟩ := tm_lot.same (((s6.trans s8).trans s9).trans s10) rN
                rw [show x1 = sv nm c1 from rx]
                refine r_op (r_var rfl (r_var rfl ⟨a1, _, e1, .inr (SqT.of ha1), rfl, flat_svs, ?_⟩))
                rw [if_neg Bool.false_ne_true, inV_sv N (hlm.1 c1 hc) (fun x hx => wN0.lt x (mem_nmS.mp hx))]
                exact q' _ _ (Same.refl _) rfl
              · rintro _ x1 c1 H10 rfl hc s10 rx _
                exact gv_var rfl rx
              · rw [e, List.map_id] at z
                exact z.l
              · obtain ⟨hlt, he⟩ := List.getElem?_eq_some_iff.mp hN0
                have h1 := List.drop_eq_getElem_cons hlt
                rw [he] at h1
                rw [← h1, List.take_append_drop]
              · rcases hin _ hmw with ⟨h1, h2⟩ | ⟨h1, h2, h3⟩
                · simp only at h1 h2
                  rw [h2] at hkT
                  exact .inl ⟨h1, hkT⟩
                · simp only at h1 h3
                  rw [h3, h1] at hkT
                  exact .inr ⟨h1, h2, hkT⟩
            · rw [decide_eq_false hk]
              refine iteF (r_next ⟨s6.trans s8, ⟨_, _, _, rfl⟩, fun c hc => ?_⟩)
              have tk : (wset top o).take (j + 1) = (wset top o).take j ++ [(m, bb)] := by rw [List.take_add_one, hm]; rfl
              rw [tk] at hc
              rcases List.mem_append.mp hc with h | h
              · exact hno2 c h
              · rw [List.mem_singleton.mp h]
                exact fun z => hk (hwF.mpr z)
          · rintro σ H6 ⟨s6, ⟨a, c, d, rfl⟩, hno2⟩
            rw [List.take_of_length_le (by omega)] at hno2
            refine ⟨s6, ⟨_, _, _, _, rfl⟩, fun N' hN' => ?_⟩
            have tk : (anc (el l) G).take (i + 1) = (anc (el l) G).take i ++ [N0] := by rw [List.take_add_one, hN0]; rfl
            rw [tk] at hN'
            rcases List.mem_append.mp hN' with h | h
            · exact hno1 N' h
            · rw [List.mem_singleton.mp h]; exact hno2
        · rintro σ H6 ⟨s6, ⟨a, b, c, d, rfl⟩, hno1⟩
          rw [List.take_of_length_le (by omega)] at hno1
          dsimp only
          refine r_ret ?_
          exact r_c (q _ _ (s05.trans s6) ⟨none, .none (hno _ hno1).1 (hno _ hno1).2, rfl⟩)
end
end Jw
end

section
set_option Elab.async false
set_option linter.all false
set_option maxRecDepth 100000
set_option maxHeartbeats 4000000
/-! The class Leading. -/
namespace Jt
open Jt.Tr
theorem Ch.snoc {T U : Tr} {ms : List (List Nat × List Nat)} (h : Ch T ms U) : ∀ {S R P W : Tr}, Mv S R P U W → Ch T (ms ++ [(nmS S, nmS P)]) W := by
  induction h with
  | nil => exact fun m => .cons m .nil
  | cons m _ ih => exact fun m' => .cons m (ih m')
end Jt
namespace Jw
open PySem PySem.Spec PyProof.Rows L2 Jt JH
/-! ### rules -/
section
variable {X : Cx} {k : Nat} {ps : List Str} {sp : Sp} {x m : Str} {p pos apos : Pos} {o e : Expr} {es : List Expr} {ta : TE} {t : TA} {C : Addr} {f : Str}
/-- a method, a class that may be called -/
structure CalM (P : Program) (w : World) (K : PySem.W.Frag) (mg : Str → Option Value) (base : Heap) (k : Nat) (C : Addr) (m : Str) (ps : List Str) (sp : Sp) : Prop where
  cls : Cls K C
  ex : ∃ f fd, FnOk P w K mg base CX0 k f fd ps sp ∧ Meth K C m f ∧ Binds K fd ps []
structure CalC (P : Program) (w : World) (K : PySem.W.Frag) (mg : Str → Option Value) (base : Heap) (k : Nat) (C : Addr) (x : Str) (ps : List Str) (sp : Sp) : Prop where
  ex : ∃ f fd, FnOk P w K mg base CX0 k f fd ps sp ∧ Mk K C f ∧ mg x = some (.ref C) ∧ Binds K fd ps []
theorem pe_calM {pl : Sem Bool} (M : CalM X.prog X.w X.K X.mg X.base k C m ps sp) (he : PE X o ta) (hr : Room k X.A) (ha : PA X (e :: es) t)
    (hst : starEach (e :: es) X.env = (false, eval e X.env) :: starEach es X.env := by rfl) (hpl : (backTo pos (starEach es X.env)).any (·.1) = false := by rfl)
    (ht : eval (.Call (.Attribute o m apos) (e :: es) [] pos) X.env = (do
      let ov ← eval o X.env
      standAt apos.atName
      let (f, first) ← holding [ov] (getMethod ov m pl)
      callWith pos f first (backTo pos (starEach (e :: es) X.env)) (backToKw pos (keywordEach [] X.env))) := by rfl) :
    PE X (.Call (.Attribute o m apos) (e :: es) [] pos) (tMeth C m sp [] E0 ta t) := by
  obtain ⟨f, fd, G, hm, b⟩ := M.ex
  exact pe_meth he M.cls hm G hr b .nil pass0 ha hst hpl ht
theorem pe_calM0 {pl : Sem Bool} (M : CalM X.prog X.w X.K X.mg X.base k C m ps sp) (he : PE X o ta) (hr : Room k X.A)
    (ht : eval (.Call (.Attribute o m apos) [] [] pos) X.env = (do
      let ov ← eval o X.env
      standAt apos.atName
      let (f, first) ← holding [ov] (getMethod ov m pl)
      callWith pos f first (backTo pos (starEach [] X.env)) (backToKw pos (keywordEach [] X.env))) := by rfl) :
    PE X (.Call (.Attribute o m apos) [] [] pos) (tMeth C m sp [] E0 ta tNil) := by
  obtain ⟨f, fd, G, hm, b⟩ := M.ex
  exact pe_meth0 he M.cls hm G hr b .nil pass0 ht
theorem pe_calC (M : CalC X.prog X.w X.K X.mg X.base k C x ps sp) (hr : Room (k + 1) X.A) (ha : PA X (e :: es) t) (hg : Gl X x := by rfl) (hdb : (x == ("__debug__" : Str)) = false := by decide)
    (he : starEach (e :: es) X.env = (false, eval e X.env) :: starEach es X.env := by rfl) (hpl : (backTo pos (starEach es X.env)).any (·.1) = false := by rfl) : PE X (.Call (.Name x p) (e :: es) [] pos) (tMake C sp [] E0 t) := by
  obtain ⟨f, fd, G, hm, m, b⟩ := M.ex
  exact pe_make hm G hr hg m b .nil pass0 ha hdb he hpl
/-- e.f = .., as one of several targets -/
def gFld (K : PySem.W.Frag) (ta : TE) (f : Str) : TG := fun y σ H Q => ta σ H fun x H2 => ∃ a C dx fs, x = .ref a ∧ H2 a = some (.ins C dx fs) ∧ Cls K C ∧ NoAttr K C f ∧ fs.length < 1000 ∧ Q σ (upd H2 a (.ins C dx (putF f y fs)))
theorem kas_at {A : Around} {P : Program} {w : World} {env : Env} {E : Value → Shared → Prop} {s : Shared} {o : PySem.Expr} {attr : Str} {pos : Pos} {v : Value} {Q : Unit → Shared → Prop}
    (h : wpAny (model P w) A (eval o env) (fun ov s₂ => wpAny (model P w) A (setAttr ov attr v) (fun _ s₃ => Q () s₃) E s₂) E s) : wpAny (model P w) A (assign (.Attribute o attr pos) env v) Q E s := fun Γ p hΓ => by
  simp only [PySem.assign_Attribute, Sem.wp_bind', Sem.wp_holding, Sem.wp_cmd_standAt, Sem.wp_release, Sem.wp_pure']
  exact Sem.wp_mono (model P w) Γ _ (fun ov _ s₂ h₂ => h₂ Γ _ hΓ) (fun _ _ _ h' => h') _ _ (h Γ _ hΓ)
theorem pg_attr (ha : PE X o ta) : PG X (.Attribute o f pos) (gFld X.K ta f) := by
  refine ⟨fun pins s σ H v u Q I r h => ?_⟩
  refine kas_at (thn (ha.run pins s σ H _ I h) fun ov s2 ⟨x, H2, I2, rx, a, C, dx, fs, ex, ea, c, n, l, q2⟩ => ?_)
  subst ex
  obtain rfl : ov = Value.ref a := rx
  exact setattr_ok I2 ea c n l r fun s3 I3 => ⟨σ, _, I3, q2⟩
end
section
variable {P : Program} {w : World} {K : PySem.W.Frag} {mg : Str → Option Value} {base : Heap} {f : Addr} {fd : FuncData} {nm : Nat → Str} {n : Nat}
theorem gv_fld {σ : L2.St} {H : Hp} {R : Hp → V → Prop} {i : Nat} {a C dx : Addr} {fs : List (Str × V)} {x : Str} {v : V} (hx : σ[i]? = some (some (.ref a))) (ha : H a = some (.ins C dx fs)) (c : Cls K C) (na : NoAttr K C x) (l : fs.lookup x = some v) (r : R H v) : Gv (tFld K (tVar i) x) σ H R := fun Q q =>
  r_fld (r_var hx ⟨a, C, dx, fs, v, rfl, ha, c, na, l, q _ _ (Same.refl _) r⟩)
/-- what the class must be -/
structure LdC (K : PySem.W.Frag) (C : Addr) : Prop where
  cls : Cls K C
  tree : NoAttr K C "tree"
  goal : NoAttr K C "goal"
  top : NoAttr K C "top"
  others : NoAttr K C "others"
  moves : NoAttr K C "moves"
def ldF (vT vG vTop vO : V) (pM : Addr) : List (Str × V) := [(("tree" : Str), vT), (("goal" : Str), vG), (("top" : Str), vTop), (("others" : Str), vO), (("moves" : Str), .ref pM)]
theorem ne_flds : (Str.ofString "tree" ≠ Str.ofString "goal") ∧ (Str.ofString "tree" ≠ Str.ofString "top") ∧ (Str.ofString "goal" ≠ Str.ofString "top") ∧ (Str.ofString "tree" ≠ Str.ofString "others") ∧ (Str.ofString "goal" ≠ Str.ofString "others") ∧ (Str.ofString "top" ≠ Str.ofString "others") ∧ (Str.ofString "tree" ≠ Str.ofString "moves") ∧ (Str.ofString "goal" ≠ Str.ofString "moves") ∧ (Str.ofString "top" ≠ Str.ofString "moves") ∧ (Str.ofString "others" ≠ Str.ofString "moves") := by decide +kernel
theorem put2 (y v : V) : putF "goal" y [(("tree" : Str), v)] = [(("tree" : Str), v), (("goal" : Str), y)] := by
  obtain ⟨h1, _⟩ := ne_flds
  simp only [putF, if_neg h1]
theorem put3 (y v w : V) : putF "top" y [(("tree" : Str), v), (("goal" : Str), w)] = [(("tree" : Str), v), (("goal" : Str), w), (("top" : Str), y)] := by
  obtain ⟨_, h1, h2, _⟩ := ne_flds
  simp only [putF, if_neg h1, if_neg h2]
theorem put4 (y v w x : V) : putF "others" y [(("tree" : Str), v), (("goal" : Str), w), (("top" : Str), x)] = [(("tree" : Str), v), (("goal" : Str), w), (("top" : Str), x), (("others" : Str), y)] := by
  obtain ⟨_, _, _, h1, h2, h3, _⟩ := ne_flds
  simp only [putF, if_neg h1, if_neg h2, if_neg h3]
theorem put5 (v w x z : V) (p : Addr) : putF "moves" (.ref p) [(("tree" : Str), v), (("goal" : Str), w), (("top" : Str), x), (("others" : Str), z)] = ldF v w x z p := by
  obtain ⟨_, _, _, _, _, _, h1, h2, h3, h4⟩ := ne_flds
  simp only [putF, if_neg h1, if_neg h2, if_neg h3, if_neg h4, ldF]
theorem put_tree (y v w x z : V) (p : Addr) : putF "tree" y (ldF v w x z p) = ldF y w x z p := by
  simp only [putF, ldF, if_true]
theorem put_top (y v w x z : V) (p : Addr) : putF "top" y (ldF v w x z p) = ldF v w y z p := by
  obtain ⟨_, h1, h2, _⟩ := ne_flds
  simp only [putF, ldF, if_neg h1, if_neg h2, if_true]
theorem put_others (y v w x z : V) (p : Addr) : putF "others" y (ldF v w x z p) = ldF v w x y p := by
  obtain ⟨_, _, _, h1, h2, h3, _⟩ := ne_flds
  simp only [putF, ldF, if_neg h1, if_neg h2, if_neg h3, if_true]
theorem lk_tree (v w x z : V) (p : Addr) : (ldF v w x z p).lookup ("tree" : Str) = some v := by rfl
theorem lk_goal (v w x z : V) (p : Addr) : (ldF v w x z p).lookup ("goal" : Str) = some w := by rfl
theorem lk_top (v w x z : V) (p : Addr) : (ldF v w x z p).lookup ("top" : Str) = some x := by rfl
theorem lk_others (v w x z : V) (p : Addr) : (ldF v w x z p).lookup ("others" : Str) = some z := by rfl
theorem lk_moves (v w x z : V) (p : Addr) : (ldF v w x z p).lookup ("moves" : Str) = some (.ref p) := by rfl
theorem lk_move (v w x z : V) (p : Addr) : (ldF v w x z p).lookup ("move" : Str) = none := by rfl
theorem lk_go (v w x z : V) (p : Addr) : (ldF v w x z p).lookup ("go_on" : Str) = none := by rfl
theorem r_sfld {σ : L2.St} {H : Hp} {D : Ends} {tv : TE} {i : Nat} {f : Str} (h : tv σ H fun y H1 => tVar i σ H1 fun x H2 => ∃ a C dx fs, x = .ref a ∧ H2 a = some (.ins C dx fs) ∧ Cls K C ∧ NoAttr K C f ∧ fs.length < 1000 ∧ D.nx σ (upd H2 a (.ins C dx (putF f y fs)))) : sFld K (tVar i) tv f D σ H := h
/-- an instance -/
structure LdS (nm : Nat → Str) (C a pM : Addr) (H0 H : Hp) (T G : Tr) (top : List Nat) (o : List (List Nat)) (ms : List (List Nat × List Nat)) : Prop where
  new : H0 a = none
  newM : H0 pM = none
  same : Same H0 H
  ex : ∃ dx vT vG vTop vO xs, H a = some (.ins C dx (ldF vT vG vTop vO pM)) ∧ H pM = some (.lst xs) ∧ TrV nm H vT T ∧ TrV nm H vG G ∧ LotV nm H vTop top ∧ TupV (LotV nm) H vO o ∧ P2 (MvV nm H) xs ms
theorem LdS.to {C a pM : Addr} {H0 H H' : Hp} {T G : Tr} {top : List Nat} {o : List (List Nat)} {ms : List (List Nat × List Nat)} (h : LdS nm C a pM H0 H T G top o ms) (s : Same H H') : LdS nm C a pM H0 H' T G top o ms :=
  let ⟨dx, vT, vG, vTop, vO, xs, h1, h2, h3, h4, h5, h6, h7⟩ := h.ex
  ⟨h.new, h.newM, h.same.trans s, dx, vT, vG, vTop, vO, xs, s _ _ h1, s _ _ h2, tm_tr.same s h3, tm_tr.same s h4, tm_lot.same s h5, (tm_tup tm_lot).same s h6, h7.imp fun _ _ k => tm_mv.same s k⟩
theorem r_nilL {σ : L2.St} {H : Hp} {Q : VK} (h : ∀ p, H p = none → Q (.ref p) (upd H p (.lst []))) : tLst tNil σ H Q := ⟨Nat.zero_le _, h⟩
/-- e.append(x), e a list -/
theorem r_appendG {te tl : TE} {σ : L2.St} {H : Hp} {D : Ends} {Ry : Hp → V → Prop} {p : Addr} {xs : List V} (hl0 : Gv tl σ H fun _ v => v = .ref p) (hp : H p = some (.lst xs)) (hl : xs.length < sizeLine) (h : ∀ {H1}, Same H H1 → Gv te σ H1 Ry) (k : ∀ y H1, Same H H1 → Ry H1 y → D.nx σ (upd H1 p (.lst (xs ++ [y])))) : tDrop (tBM K "list" rAppend tl (tCons te tNil)) D σ H :=
  hl0 _ fun v H0 s0 e => by
    subst e
    exact ⟨.inl ⟨rfl, _, SqL.of (s0 _ _ hp)⟩, h s0 _ fun y H1 s1 r => ⟨p, xs, y, rfl, rfl, (s0.trans s1) _ _ hp, hl, k y H1 (s0.trans s1) r⟩⟩
/-! ### __init__ -/
def spInit (nm : Nat → Str) (n : Nat) (C : Addr) : Sp := fun vs H Q _ => ∃ (H0 : Hp) (a dx : Addr) (v v' u : V) (T G : Tr) (top : List Nat) (o : List (List Nat)), vs = [.ref a, v, v', u] ∧ H a = some (.ins C dx []) ∧ H0 a = none ∧ Same H0 H ∧ TrV nm H v T ∧ TrV nm H v' G ∧ FoV nm H u (top, o) ∧
  ∀ H' pM, Tups H H' → LdS nm C a pM H0 H' T G top o [] → Q .non H'
theorem sc_Leading___init__ : FnScope ["self", "tree", "goal", "forest"] ["self", "tree", "goal", "forest"] (defScope s_Leading___init__) := ⟨rfl, rfl, rfl, by decide +kernel, rfl, by decide +kernel, by decide +kernel⟩
theorem ok_ld_init {C : Addr} (F : FunD K "__init__" "Leading.__init__" (defArgs s_Leading___init__) (defBody s_Leading___init__) (defScope s_Leading___init__) [] [] f fd) (B : Bi mg) (L : LdC K C) : FnOk P w K mg base CX0 1 f fd ["self", "tree", "goal", "forest"] (spInit nm n C) := by
  refine F.ok sc_Leading___init__ (fun vs H Q E h => ?_) (fun cdv A outer s H vs Q E hr h => ?_)
  · obtain ⟨_, _, _, _, _, _, _, _, _, _, rfl, _⟩ := h; rfl
  · obtain ⟨H0, a, dx, v, v', u, T, G, top, o, rfl, ha, hn, s0, hv, hv', hu', q⟩ := h
    refine ⟨_, PSs.nox (pss_cons (ps_fld (pv 0) (pv 1) rfl)
      (pss_cons (ps_fld (pv 0) (pv 2) rfl)
      (pss_cons (ps_asg (pv 3) (pg_tup rfl (pgs_cons (pg_attr (pv 0)) (pgs_cons (pg_attr (pv 0)) pgs_nil))))
      (pss_one (ps_fld (pv 0) (pe_lst pa_nil) rfl))))), ?_⟩
    obtain ⟨p, x, y, rfl, hp, hx, hy⟩ := hu'
    simp only at hx hy
    have hd0 : H0 a = none := hn
    refine r_seq (r_sfld (r_var rfl (r_var rfl ⟨a, C, dx, _, rfl, ha, L.cls, L.tree, by simp, ?_⟩)))
    have e1 : putF "tree" v [] = [(("tree" : Str), v)] := rfl
    rw [e1]
    refine r_seq (r_sfld (r_var rfl (r_var rfl ⟨a, C, dx, _, rfl, upd_same, L.cls, L.goal, by simp, ?_⟩)))
    rw [put2]
    have t1 : Tups H (upd (upd H a (.ins C dx [(("tree" : Str), v)])) a (.ins C dx [(("tree" : Str), v), (("goal" : Str), v')])) := (tups_ins ha).trans (tups_ins upd_same)
    refine r_seq ⟨.ref p, rfl, p, [x, y], rfl, SqT.of (t1 _ _ hp trivial), rfl, x, _, rfl, r_var rfl ⟨a, C, dx, _, rfl, upd_same, L.cls, L.top, by simp, y, _, rfl, r_var rfl ⟨a, C, dx, _, rfl, upd_same, L.cls, L.others, ?_, rfl, ?_⟩⟩⟩
    · rw [put3]; simp
    · rw [put3, put4]
      have t2 := (t1.trans (tups_ins (u := .ins C dx [(("tree" : Str), v), (("goal" : Str), v'), (("top" : Str), x)]) upd_same)).trans (tups_ins (u := .ins C dx [(("tree" : Str), v), (("goal" : Str), v'), (("top" : Str), x), (("others" : Str), y)]) upd_same)
      generalize hH : upd (upd (upd (upd H a (.ins C dx [(("tree" : Str), v)])) a (.ins C dx [(("tree" : Str), v), (("goal" : Str), v')])) a (.ins C dx [(("tree" : Str), v), (("goal" : Str), v'), (("top" : Str), x)])) a (.ins C dx [(("tree" : Str), v), (("goal" : Str), v'), (("top" : Str), x), (("others" : Str), y)]) = H1 at t2 ⊢
      have s1 : Same H0 H1 := by
        rw [← hH]
        exact same_mut (same_mut (same_mut (same_mut s0 hd0) hd0) hd0) hd0
      have a1 : H1 a = some (.ins C dx [(("tree" : Str), v), (("goal" : Str), v'), (("top" : Str), x), (("others" : Str), y)]) := by rw [← hH]; exact upd_same
      refine r_sfld (r_nilL fun pM hM => r_var rfl ⟨a, C, dx, _, rfl, (same_new hM _) _ _ a1, L.cls, L.moves, by simp, ?_⟩)
      rw [put5]
      have hne : pM ≠ a := fun z => by rw [z, a1] at hM; cases hM
      have t3 : Tups H (upd (upd H1 pM (.lst [])) a (.ins C dx (ldF v v' x y pM))) := (t2.trans (Same.tups (same_new hM _))).trans (tups_ins ((same_new hM _) _ _ a1))
      exact q _ pM t3 ⟨hd0, s1.free hM, same_mut (s1.trans (same_new hM _)) hd0, dx, v, v', x, y, [], upd_same, by rw [upd_ne hne]; exact upd_same, tm_tr _ _ _ _ t3 hv, tm_tr _ _ _ _ t3 hv', tm_lot _ _ _ _ t3 hx, tm_tup tm_lot _ _ _ _ t3 hy, .nil⟩
/-! ### move -/
def spMvL (nm : Nat → Str) (n : Nat) (C : Addr) : Sp := fun vs H Q _ => ∃ (H0 : Hp) (a pM : Addr) (vl vn : V) (T G S R : Tr) (top ns : List Nat) (o : List (List Nat)) (ms : List (List Nat × List Nat)), vs = [.ref a, vl, vn] ∧ LdS nm C a pM H0 H T G top o ms ∧ LotV nm H vl (nmS S) ∧ LotV nm H vn ns ∧ Wf n T ∧ S ∈ T.subs ∧
  res (fun x => decide (x ∉ S.nm)) T = some R ∧ ns ≠ [] ∧ ns.length ≤ 100 ∧ (∀ x ∈ ns, x ∈ R.nm) ∧ ms.length ≤ 100 ∧
  ∀ H' T' ms', Tups H H' → Mv S R (hd (el ns) R) T T' → LdS nm C a pM H0 H' T' G top o ms' → ms'.length ≤ ms.length + 1 → (∀ T0, Ch T0 ms T → Ch T0 ms' T') → Q .non H'
theorem sc_Leading_move : FnScope ["self", "lot", "names", "left", "place", "later"] ["self", "lot", "names"] (defScope s_Leading_move) := ⟨rfl, rfl, rfl, by decide +kernel, rfl, by decide +kernel, by decide +kernel⟩
theorem ok_ld_move {C : Addr} (F : FunD K "move" "Leading.move" (defArgs s_Leading_move) (defBody s_Leading_move) (defScope s_Leading_move) [] [] f fd) (B : Bi mg) (N : Nm nm n) (L : LdC K C) (c_names_left : Cal P w K mg base 12 "names_left" ["tree", "lot"] (spLeft nm n)) (c_head_of : Cal P w K mg base 2 "head_of" ["nodes", "lot"] (spHeadOf nm n)) (c_nodes_of : Cal P w K mg base 23 "nodes_of" ["tree"] (spNodesOf nm n)) (c_tree_to : Cal P w K mg base 15 "tree_to" ["tree", "names"] (spTreeTo nm n))
    (c_moved : Cal P w K mg base 26 "moved" ["tree", "move"] (spMoved nm n)) : FnOk P w K mg base CX0 27 f fd ["self", "lot", "names"] (spMvL nm n C) := by
  refine F.ok sc_Leading_move (fun vs H Q E h => ?_) (fun cdv A outer s H vs Q E hr h => ?_)
  · obtain ⟨_, _, _, _, _, _, _, _, _, _, _, _, _, rfl, _⟩ := h; rfl
  · obtain ⟨H0, a, pM, vl, vn, T, G, S, R, top, ns, o, ms, rfl, hS0, hl, hns, hw, hS, hR, hne, hnl, hsub, hml, q⟩ := h
    have hu := hr.units
    refine ⟨_, PSs.nox (pss_cons (ps_set (i := 3) sc_Leading_move.nd rfl (by first | exact Or.inl rfl | exact Or.inr rfl) (pe_cal c_names_left (hr.mono (by first | decide | omega)) (pa_cons (pe_fld (pv 0) rfl) (pa_cons (pv 1) pa_nil))))
      (pss_cons (ps_set (i := 4) sc_Leading_move.nd rfl (by first | exact Or.inl rfl | exact Or.inr rfl) (pe_cal c_head_of (hr.mono (by first | decide | omega)) (pa_cons (pe_cal c_nodes_of (hr.mono (by first | decide | omega)) (pa_cons (pe_cal c_tree_to (hr.mono (by first | decide | omega)) (pa_cons (pe_fld (pv 0) rfl) (pa_cons (pv 3) pa_nil))) pa_nil)) (pa_cons (pv 2) pa_nil))))
      (pss_cons (ps_set (i := 5) sc_Leading_move.nd rfl (by first | exact Or.inl rfl | exact Or.inr rfl) (pe_cal c_moved (hr.mono (by first | decide | omega)) (pa_cons (pe_fld (pv 0) rfl) (pa_cons (pe_tup (pa_cons (pv 1) (pa_cons (pv 4) pa_nil))) pa_nil))))
      (pss_one (ps_if (pt_cmpR (neD K hu) (pv 5) (pe_fld (pv 0) rfl) (by rfl)) (pss_cons (ps_expr (pe_bm PySem.F.plainAttrs_list PySem.F.slot_list_append PySem.F.type_list_append mt_append (pe_fld (pv 0) rfl) (pa_cons (pe_tup (pa_cons (pv 1) (pa_cons (pv 4) pa_nil))) pa_nil)))
      (pss_one (ps_fld (pv 0) (pv 5) rfl))) pss_nil))))), ?_⟩
    obtain ⟨dx, vT, vG, vTop, vO, xs, ha, hM, hT, hG, hTop, hO, hms⟩ := hS0.ex
    have wS := hw.sub hS
    have wR : Wf n R := hw.res hR
    have lS : ∀ z ∈ nmS S, z < n := fun z hz => wS.lt z (mem_nmS.mp hz)
    have hR' : res (fun x => decide (x ∉ nmS S)) T = some R := by rw [rest_nmS]; exact hR
    obtain ⟨T', hP⟩ := put_ex S (hd_sub (p := el ns) (t := R))
    have hmv : Mv S R (hd (el ns) R) T T' := ⟨hS, hR, hP⟩
    have wT' := hw.mv hmv
    have fT : ∀ {H1 : Hp} {σ : L2.St}, Same H H1 → σ[0]? = some (some (V.ref a)) → Gv (tFld K (tVar 0) "tree") σ H1 fun H1 r => TrV nm H1 r T := fun s e => gv_fld e (s _ _ ha) L.cls L.tree (lk_tree ..) (tm_tr.same s hT)
    refine r_seq (r_asg (gv_use (gv_call2 (R := fun H r => LotV nm H r (nmS R)) (fT (Same.refl _) rfl) (fun H2 s2 => gv_var (R := fun H r => LotV nm H r (nmS S)) rfl (tm_lot.same s2 hl)) fun x y H1 H2 s1 rx s2 ry => ⟨(T, nmS S), ⟨x, y, rfl, tm_tr.same s2 rx, ry, hw, lS⟩, fun r H3 s3 z => by rw [← lft_rest hR']; exact z⟩) fun lv H1 s1 hlv => ?_))
    refine r_seq (r_asg (gv_use (gv_call2 (R := fun H r => LotV nm H r (nmS (hd (el ns) R))) (Ra := fun H1 r => ∃ L, Nodes R L ∧ LstV (LotV nm) H1 r L) (gv_call1 (Ra := fun H r => TrV nm H r R) (gv_call2 (Ra := fun H r => TrV nm H r T) (fT s1 rfl) (fun H2 s2 => gv_var (R := fun H r => LotV nm H r (nmS R)) rfl (tm_lot.same s2 hlv)) fun x y H1 H2 s1 rx s2 ry => ⟨(T, nmS R), ⟨x, y, rfl, tm_tr.same s2 rx, ry, hw, fun x hx => wR.lt x (mem_nmS.mp hx)⟩, fun r H3 s3 z => ?_⟩) fun x H2 s2 rx => ⟨R, ⟨x, rfl, rx, wR⟩, fun r H3 s3 ⟨L, hN, z⟩ => ⟨L, hN, z.l⟩⟩)
      (fun H2 s2 => gv_var (R := fun H r => LotV nm H r ns) rfl (tm_lot.same (s1.trans s2) hns)) fun x y H3 H4 s3 ⟨Ln, hN, rx⟩ s4 ry => ⟨(R, Ln, ns), ⟨x, y, rfl, rx.same tm_lot s4, ry, wR, hN, hne, hnl, hsub⟩, fun r H5 s5 z => z⟩) fun pv H2 s2 hpv => ?_))
    · have : OTr nm H3 r (res (el (nmS R)) T) := z
      rw [← lft_rest hR', res_lft hR'] at this
      exact this
    have s02 := s1.trans s2
    refine r_seq (r_asg (gv_use (gv_call2 (R := fun H r => TrV nm H r T') (fT s02 rfl) (fun H3 s3 => gv_pair (a := nmS S) (b := nmS (hd (el ns) R)) tm_lot tm_lot (gv_var (R := fun H r => LotV nm H r (nmS S)) rfl (tm_lot.same (s02.trans s3) hl)) (fun H4 s4 => gv_var (R := fun H r => LotV nm H r (nmS (hd (el ns) R))) rfl (tm_lot.same (s3.trans s4) hpv))) fun x y H3 H4 s3 rx s4 ry => ⟨(T, S, R, hd (el ns) R, T'), ⟨x, y, rfl, tm_tr.same s4 rx, ry, hw, hmv⟩, fun r H5 s5 z => z⟩) fun tv H3 s3 htv => ?_))
    have s03 := s02.trans s3
    refine r_if (gt_use (b := decide (T' ≠ T)) (gt_test (gv_imp (gv_neD (da := dT nm T') (db := dT nm T) (gv_var (R := fun H r => TrV nm H r T') rfl htv) (fun H4 s4 => fT (s03.trans s4) rfl) (fun x y H4 H5 s4 rx s5 ry => ⟨dp_tr (tm_tr.same s5 rx), dp_tr ry⟩) (sh_dT N wT'.lt (Nat.le_trans (wT'.sz N.few) (by decide))) (sh_dT N hw.lt (Nat.le_trans (hw.sz N.few) (by decide)))) fun r H4 _ e => ?_)) fun H4 s4 => ?_)
    · rw [e, bool_iff (eqv_dT N wT'.lt hw.lt)]
      by_cases h : T' = T <;> simp [h]
    · have s04 := s03.trans s4
      by_cases hTT : T' = T
      · rw [decide_eq_false (fun z => z hTT)]
        refine iteF (r_next (q _ T' ms (Same.tups s04) hmv ?_ (Nat.le_succ _) fun T0 h => by rw [hTT]; exact h))
        rw [hTT]
        exact hS0.to s04
      · rw [decide_eq_true hTT]
        have hsl : (100000 : Nat) ≤ sizeLine := by decide
        have hxl := hms.len
        refine iteT (r_seq (r_appendG (p := pM) (gv_fld rfl (s04 _ _ ha) L.cls L.moves (lk_moves ..) rfl) (s04 _ _ hM) (by omega) (fun s5' => gv_pair (a := nmS S) (b := nmS (hd (el ns) R)) tm_lot tm_lot (gv_var (R := fun H r => LotV nm H r (nmS S)) rfl (tm_lot.same (s04.trans s5') hl)) (fun H5 s5 => gv_var (R := fun H r => LotV nm H r (nmS (hd (el ns) R))) rfl (tm_lot.same (((s3.trans s4).trans s5').trans s5) hpv))) fun y H5 s5 ry => ?_))
        have a5 := (s04.trans s5) _ _ ha
        have m5 := (s04.trans s5) _ _ hM
        have hne : a ≠ pM := fun z => by rw [z, hM] at ha; cases ha
        refine r_sfld (r_var rfl (r_var rfl ⟨a, C, dx, _, rfl, by rw [upd_ne hne]; exact a5, L.cls, L.tree, by simp [ldF], ?_⟩))
        rw [put_tree]
        have t5 : Tups H5 (upd (upd H5 pM (.lst (xs ++ [y]))) a (.ins C dx (ldF tv vG vTop vO pM))) := (tups_lst m5).trans (tups_ins (by rw [upd_ne hne]; exact a5))
        have t0 : Tups H _ := (Same.tups (s04.trans s5)).trans t5
        have t3 : Tups H3 _ := (Same.tups (s4.trans s5)).trans t5
        refine q _ T' (ms ++ [(nmS S, nmS (hd (el ns) R))]) t0 hmv ⟨hS0.new, hS0.newM, same_mut (same_mut ((hS0.same.trans s04).trans s5) hS0.newM) hS0.new, dx, tv, vG, vTop, vO, xs ++ [y], upd_same, by rw [upd_ne (Ne.symm hne)]; exact upd_same, tm_tr _ _ _ _ t3 htv, tm_tr _ _ _ _ t0 hG, tm_lot _ _ _ _ t0 hTop, tm_tup tm_lot _ _ _ _ t0 hO, (hms.imp fun _ _ k => tm_mv _ _ _ _ t0 k).app (.cons (tm_mv _ _ _ _ t5 ry) .nil)⟩ (by simp) fun T0 h => h.snoc hmv
end
end Jw
end

section
set_option Elab.async false
set_option linter.all false
set_option maxRecDepth 100000
set_option maxHeartbeats 4000000
/-! Leading.go_on, moves_by, fewest_moves. -/
namespace Jt
open Jt.Tr
section
variable {n : Nat} {T G S N R : Tr} {p : Nat → Bool} {top L m : List Nat} {o : List (List Nat)}
theorem way_mt {b : Bool} (h : N ∈ wayT p b T) (hm : mt p T = true) : mt p N = true := by
  cases b with
  | true => exact (way_open.mp h).2
  | false => exact ((way_hd hm).mp h).2
theorem hd_all (R : Tr) : hd (el (nmS R)) R = R := by
  cases R with
  | lf i => rfl
  | fk a b =>
    refine hd_both ?_ ?_
    · exact mt_true.mpr ⟨_, fst_mem a, el_true.mpr (mem_nmS.mpr (List.mem_append_left _ (fst_mem a)))⟩
    · exact mt_true.mpr ⟨_, fst_mem b, el_true.mpr (mem_nmS.mpr (List.mem_append_right _ (fst_mem b)))⟩
theorem rest_ex {x : Nat} (hx : x ∈ T.nm) (hn : x ∉ S.nm) : ∃ R, res (fun x => decide (x ∉ S.nm)) T = some R := res_some_of (mt_true.mpr ⟨x, hx, decide_eq_true hn⟩)
theorem rest_none (hT : T.ok) (hS : S ∈ T.subs) (h : res (fun x => decide (x ∉ S.nm)) T = none) : S = T := sub_whole hT hS fun x hx => by
  have := mt_false.mp (res_none.mp h) x hx
  simpa using this
theorem perm_filt (hn : o.Nodup) (h : L ∈ o) : o.Perm (L :: o.filter fun m => decide (m ≠ L)) := by
  refine (List.perm_ext_iff_of_nodup hn ?_).mpr fun x => ?_
  · refine List.nodup_cons.mpr ⟨fun z => ?_, hn.filter _⟩
    exact of_decide_eq_true (List.mem_filter.mp z).2 rfl
  · rw [List.mem_cons, List.mem_filter]
    constructor
    · intro hx
      by_cases e : x = L
      · exact .inl e
      · exact .inr ⟨hx, decide_eq_true e⟩
    · rintro (e | ⟨hx, _⟩)
      · rw [e]; exact h
      · exact hx
theorem Fo.nodup (h : Fo T G top o) : o.Nodup := h.djs.imp_of_mem fun {a b} ha hb k e => by
  obtain ⟨x, hx⟩ := List.exists_mem_of_ne_nil a (h.ne a ha)
  exact k x hx (e ▸ hx)
/-- the lots stand in their order -/
def LSrt (top : List Nat) (o : List (List Nat)) : Prop := top.Pairwise (· < ·) ∧ ∀ l ∈ o, l.Pairwise (· < ·)
theorem fo_sinv (h : Fo T G top o) (s : LSrt top o) : SInv T o.length [] top o where
  cov := fun x => by
    rw [← h.cov x]
    simp
  ne := h.ne
  dj := h.dj
  djs := h.djs
  srt := s
  few := Nat.le_refl _
/-- two lots in one, in their order -/
def jn (n : Nat) (l m : List Nat) : List Nat := (List.range n).filter fun x => decide (x ∈ l ∨ x ∈ m)
theorem mem_jn {l m : List Nat} (hl : ∀ x ∈ l, x < n) (hm : ∀ x ∈ m, x < n) {x : Nat} : x ∈ jn n l m ↔ x ∈ l ∨ x ∈ m := by
  unfold jn
  rw [List.mem_filter, List.mem_range, decide_eq_true_iff]
  exact ⟨fun h => h.2, fun h => ⟨h.elim (hl x) (hm x), h⟩⟩
theorem srt_jn (l m : List Nat) : (jn n l m).Pairwise (· < ·) := List.pairwise_lt_range.filter _
theorem jn_eq {l m M : List Nat} (hl : ∀ x ∈ l, x < n) (hm : ∀ x ∈ m, x < n) (h1 : M.Pairwise (· < ·)) (h2 : ∀ x, x ∈ M ↔ x ∈ l ∨ x ∈ m) : M = jn n l m := srt_uniq h1 (srt_jn l m) fun x => by rw [h2, mem_jn hl hm]
/-- a forest without others: the trees are one -/
theorem Fo.eq_of_nil (h : Fo T G top []) (hT : T.ok) (hG : G.ok) : T = G := by
  have hc : ∀ x, x ∈ T.nm ↔ x ∈ top := fun x => by
    have := h.cov x
    simpa using this
  have e1 : res (el top) T = some T := res_all hT fun x hx => el_true.mpr ((hc x).mp hx)
  have e2 : res (el top) G = some G := res_all hG fun x hx => el_true.mpr ((hc x).mp ((h.same x).mpr hx))
  have := h.agT
  rw [e1, e2] at this
  exact Option.some.inj this
end
end Jt
namespace Jw
open PySem PySem.Spec PyProof.Rows L2 Jt JH
section
variable {P : Program} {w : World} {K : PySem.W.Frag} {mg : Str → Option Value} {base : Heap} {f : Addr} {fd : FuncData} {nm : Nat → Str} {n : Nat}
theorem lds_mk {C a pM dx : Addr} {fs0 : List (Str × V)} {H0 H : Hp} {T G : Tr} {top : List Nat} {o : List (List Nat)} {ms : List (List Nat × List Nat)} {vT vG vTop vO : V} {xs : List V} (hn : H0 a = none) (hM0 : H0 pM = none) (s : Same H0 H) (ha : H a = some (.ins C dx fs0)) (hM : H pM = some (.lst xs)) (h3 : TrV nm H vT T) (h4 : TrV nm H vG G) (h5 : LotV nm H vTop top) (h6 : TupV (LotV nm) H vO o) (h7 : P2 (MvV nm H) xs ms) :
    LdS nm C a pM H0 (upd H a (.ins C dx (ldF vT vG vTop vO pM))) T G top o ms := by
  have t : Tups H (upd H a (.ins C dx (ldF vT vG vTop vO pM))) := tups_ins ha
  have hne : pM ≠ a := fun z => by rw [z, ha] at hM; cases hM
  exact ⟨hn, hM0, same_mut s hn, dx, vT, vG, vTop, vO, xs, upd_same, by rw [upd_ne hne]; exact hM, tm_tr _ _ _ _ t h3, tm_tr _ _ _ _ t h4, tm_lot _ _ _ _ t h5, tm_tup tm_lot _ _ _ _ t h6, h7.imp fun _ _ k => tm_mv _ _ _ _ t k⟩
theorem r_meth1 {σ : L2.St} {H : Hp} {Q : VK} {C : Addr} {m : Str} {sp : Sp} {E : XK} {i : Nat} {a dx : Addr} {fs : List (Str × V)} {ta tb : TE} (hx : σ[i]? = some (some (.ref a))) (ha : H a = some (.ins C dx fs)) (l : fs.lookup m = none) (h : ta σ H fun x H1 => tb σ H1 fun y H2 => sp [.ref a, x, y] H2 Q E) : tMeth C m sp [] E (tVar i) (tCons ta (tCons tb tNil)) σ H Q :=
  r_var hx ⟨a, dx, fs, rfl, ha, l, h⟩
theorem r_meth0 {σ : L2.St} {H : Hp} {Q : VK} {C : Addr} {m : Str} {sp : Sp} {E : XK} {i : Nat} {a dx : Addr} {fs : List (Str × V)} (hx : σ[i]? = some (some (.ref a))) (ha : H a = some (.ins C dx fs)) (l : fs.lookup m = none) (h : sp [.ref a] H Q E) : tMeth C m sp [] E (tVar i) tNil σ H Q :=
  r_var hx ⟨a, dx, fs, rfl, ha, l, h⟩
/-! ### go_on -/
def spGoOn (nm : Nat → Str) (n : Nat) (C : Addr) : Sp := fun vs H Q _ => ∃ (H0 : Hp) (a pM : Addr) (T G : Tr) (top : List Nat) (o : List (List Nat)) (ms : List (List Nat × List Nat)), vs = [.ref a] ∧ LdS nm C a pM H0 H T G top o ms ∧ Fo T G top o ∧ Wf n T ∧ Wf n G ∧ LSrt top o ∧ o ≠ [] ∧ ms.length ≤ 50 ∧
  ∀ H' T' top' o' ms', Tups H H' → LdS nm C a pM H0 H' T' G top' o' ms' → Fo T' G top' o' → Wf n T' → LSrt top' o' → o'.length + 1 = o.length → ms'.length ≤ ms.length + 1 → (∀ T0, Ch T0 ms T → Ch T0 ms' T') → Q .non H'
theorem sc_Leading_go_on : FnScope ["self", "lot", "mate", "met", "names", "one"] ["self"] (defScope s_Leading_go_on) := ⟨rfl, rfl, rfl, by decide +kernel, rfl, by decide +kernel, by decide +kernel⟩
theorem ok_ld_go_on {C : Addr} (F : FunD K "go_on" "Leading.go_on" (defArgs s_Leading_go_on) (defBody s_Leading_go_on) (defScope s_Leading_go_on) [] [] f fd) (B : Bi mg) (N : Nm nm n) (L : LdC K C) (c_free_lot : Cal P w K mg base 24 "free_lot" ["tree", "others"] (spFree nm n)) (c_met_above : Cal P w K mg base 24 "met_above" ["tree", "top", "others", "lot"] (spMet nm n)) (c_names_left : Cal P w K mg base 12 "names_left" ["tree", "lot"] (spLeft nm n)) (c_one_lot : Cal P w K mg base 1 "one_lot" ["lot", "mate"] (spOneLot nm n))
    (m_move : CalM P w K mg base 27 C "move" ["self", "lot", "names"] (spMvL nm n C)) : FnOk P w K mg base CX0 28 f fd ["self"] (spGoOn nm n C) := by
  refine F.ok sc_Leading_go_on (fun vs H Q E h => ?_) (fun cdv A outer s H vs Q E hr h => ?_)
  · obtain ⟨_, _, _, _, _, _, _, _, rfl, _⟩ := h; rfl
  · obtain ⟨H0, a, pM, T, G, top, o, ms, rfl, hS0, hFo, hw, hw', hsr, hne, hml, q⟩ := h
    have hu := hr.units
    refine ⟨_, PSs.nox (pss_cons (ps_set (i := 1) sc_Leading_go_on.nd rfl (by first | exact Or.inl rfl | exact Or.inr rfl) (pe_cal c_free_lot (hr.mono (by first | decide | omega)) (pa_cons (pe_fld (pv 0) rfl) (pa_cons (pe_fld (pv 0) rfl) pa_nil))))
      (pss_cons (ps_fld (pv 0) (pe_callTy (tupQ K) (by rfl) B.tuple boot_tuple (pa_cons (pe_lc (own := [("mate", 2)]) rfl sc_Leading_go_on.nd (piT K (pe_fld (pv 0) rfl)) (blkOk_by (N := ["self", "lot", "mate", "met", "names", "one"]) (sc := defScope s_Leading_go_on) (by decide +kernel)) (fun _ _ _ _ _ => (pg_name (i := 2) sc_Leading_go_on.nd rfl (by first | exact Or.inl rfl | exact Or.inr rfl))) (fun _ _ _ _ _ => pts_one (pt_cmpR (neD K hu) (pv 2) (pv 1) (by rfl))) (fun _ _ _ _ _ => (pv 2))) pa_nil)) rfl)
      (pss_cons (ps_set (i := 3) sc_Leading_go_on.nd rfl (by first | exact Or.inl rfl | exact Or.inr rfl) (pe_cal c_met_above (hr.mono (by first | decide | omega)) (pa_cons (pe_fld (pv 0) rfl) (pa_cons (pe_fld (pv 0) rfl) (pa_cons (pe_fld (pv 0) rfl) (pa_cons (pv 1) pa_nil))))))
      (pss_cons (ps_if (pt_cmpR op_isN (pv 3) (pe_non) (by rfl)) (pss_cons (ps_fld (pv 0) (pv 1) rfl)
      (pss_cons (ps_if (pt_cmpR (neD K hu) (pe_cal c_names_left (hr.mono (by first | decide | omega)) (pa_cons (pe_fld (pv 0) rfl) (pa_cons (pv 1) pa_nil))) (pe_tup pa_nil) (by rfl)) (pss_one (ps_expr (pe_calM m_move (pv 0) (hr.mono (by first | decide | omega)) (pa_cons (pv 1) (pa_cons (pe_cal c_names_left (hr.mono (by first | decide | omega)) (pa_cons (pe_fld (pv 0) rfl) (pa_cons (pv 1) pa_nil))) pa_nil))))) pss_nil)
      (pss_one (ps_retN)))) pss_nil)
      (pss_cons (ps_asg (pv 3) (pg_tup rfl (pgs_cons (pg_name (i := 2) sc_Leading_go_on.nd rfl (by first | exact Or.inl rfl | exact Or.inr rfl)) (pgs_cons (pg_name (i := 4) sc_Leading_go_on.nd rfl (by first | exact Or.inl rfl | exact Or.inr rfl)) pgs_nil))))
      (pss_cons (ps_expr (pe_calM m_move (pv 0) (hr.mono (by first | decide | omega)) (pa_cons (pv 1) (pa_cons (pv 4) pa_nil))))
      (pss_one (ps_if (pt_cmpR (eqD K hu) (pv 2) (pe_fld (pv 0) rfl) (by rfl)) (pss_one (ps_fld (pv 0) (pe_cal c_one_lot (hr.mono (by first | decide | omega)) (pa_cons (pv 1) (pa_cons (pv 2) pa_nil))) rfl)) (pss_one (ps_fld (pv 0) (pe_callTy (tupQ K) (by rfl) B.tuple boot_tuple (pa_cons (pe_lc (own := [("one", 5)]) rfl sc_Leading_go_on.nd (piT K (pe_fld (pv 0) rfl)) (blkOk_by (N := ["self", "lot", "mate", "met", "names", "one"]) (sc := defScope s_Leading_go_on) (by decide +kernel)) (fun _ _ _ _ _ => (pg_name (i := 5) sc_Leading_go_on.nd rfl (by first | exact Or.inl rfl | exact Or.inr rfl))) (fun _ _ _ _ _ => pts_nil) (fun _ _ _ _ _ => (pe_ifExp (pt_cmpR (eqD K hu) (pv 5) (pv 2) (by rfl)) (pe_cal c_one_lot (hr.mono (by first | decide | omega)) (pa_cons (pv 1) (pa_cons (pv 2) pa_nil))) (pv 5)))) pa_nil)) rfl)))))))))), ?_⟩
    obtain ⟨dx, vT, vG, vTop, vO, xs, ha, hM, hT, hG, hTop, hO, hms⟩ := hS0.ex
    have hinv := fo_sinv hFo hsr
    have hlo := sinv_lots hinv hw N
    have hlo' := lots_other hlo hFo.same
    have hol := hlo.ol
    have hlt : ∀ l ∈ o, ∀ x ∈ l, x < n := fun l hl x hx => hw.lt x ((hlo.each l hl).2.2 x hx)
    refine r_seq (r_asg (gv_use (gv_call2 (R := fun H r => ∃ S ∈ T.subs, nmS S ∈ o ∧ LotV nm H r (nmS S)) (gv_fld rfl ha L.cls L.tree (lk_tree ..) hT) (fun H2 s2 => gv_fld (R := fun H r => TupV (LotV nm) H r o) rfl (s2 _ _ ha) L.cls L.others (lk_others ..) ((tm_tup tm_lot).same s2 hO)) fun x y H1 H2 s1 rx s2 ry => ⟨(T, o), ⟨x, y, rfl, tm_tr.same s2 rx, ry, hw, hlt, by show o.length ≤ 100; omega, ?_⟩, fun r H3 s3 z => z⟩) fun lv H1 s1 ⟨S, hS, hSo, hlv⟩ => ?_))
    · obtain ⟨l, hl, S, hS, hm⟩ := hFo.free hw.ok hne
      refine ⟨S, hS, ?_⟩
      rw [← nmS_eq (hsr.2 l hl) fun x => (hm x).symm]
      exact hl
    · have wS := hw.sub hS
      have lS : ∀ x ∈ nmS S, x < n := fun x hx => wS.lt x (mem_nmS.mp hx)
      refine r_seq (r_sfld (gv_use (gv_tupOf (K := K) (fun as => as = o.filter fun m => decide (m ≠ nmS S)) (tm_lot (nm := nm)) (gv_imp (gv_lcT (fun m => decide (m ≠ nmS S)) id (fun as => as = o) (tm_lot (nm := nm)) (tm_lot (nm := nm)) (gv_fld (R := fun H r => ∃ as, as = o ∧ SqTV K (LotV nm) H r as) rfl (s1 _ _ ha) L.cls L.others (lk_others ..) ⟨o, rfl, ((tm_tup tm_lot).same s1 hO).sq⟩) (fun _ e => by rw [e]; omega) (fun _ => rfl) ?_ ?_) fun r H2 s2 ⟨as, e, z⟩ => ⟨_, rfl, ?_⟩)) fun ov H2 s2 ⟨_, eo, hov⟩ => ?_))
      · rintro _ x c H2 rfl hc s2 rx
        refine gt_test (gv_imp (gv_neD (da := dL nm c) (db := dL nm (nmS S)) (gv_var (R := fun H r => LotV nm H r c) rfl rx) (fun H3 s3 => gv_var (R := fun H r => LotV nm H r (nmS S)) rfl (tm_lot.same (s2.trans s3) hlv)) (fun x y H3 H4 s3 rx s4 ry => ⟨dp_lot (tm_lot.same s4 rx), dp_lot ry⟩) (sh_dL N (hlt c hc)) (sh_dL N lS)) fun r H3 _ e => ?_)
        rw [e, bool_iff (eqv_dL N (hlt c hc) lS)]
        by_cases h : c = nmS S <;> simp [h]
      · rintro _ x c H2 rfl hc s2 rx _
        exact gv_var rfl rx
      · rw [e, List.map_id] at z; exact z.l
      · subst eo
        have s02 := s1.trans s2
        have ha2 := s02 _ _ ha
        have hM2 := s02 _ _ hM
        refine r_var rfl ⟨a, C, dx, _, rfl, ha2, L.cls, L.others, by simp [ldF], ?_⟩
        rw [put_others]
        have L3 := lds_mk (C := C) hS0.new hS0.newM (hS0.same.trans s02) ha2 hM2 (tm_tr.same s02 hT) (tm_tr.same s02 hG) (tm_lot.same s02 hTop) hov (hms.imp fun _ _ k => tm_mv.same s02 k)
        have t3 : Tups H2 (upd H2 a (.ins C dx (ldF vT vG vTop ov pM))) := tups_ins ha2
        have ha3 : upd H2 a (.ins C dx (ldF vT vG vTop ov pM)) a = some (.ins C dx (ldF vT vG vTop ov pM)) := upd_same
        generalize hH3 : upd H2 a (.ins C dx (ldF vT vG vTop ov pM)) = H3 at L3 t3 ha3 ⊢
        generalize ho' : (o.filter fun m => decide (m ≠ nmS S)) = o' at hov L3
        have t03 : Tups H H3 := (Same.tups s02).trans t3
        have hT3 := tm_tr _ _ _ _ t03 hT
        have hG3 := tm_tr _ _ _ _ t03 hG
        have hTop3 := tm_lot _ _ _ _ t03 hTop
        have hov3 := tm_tup tm_lot _ _ _ _ t3 hov
        have hlv3 := tm_lot _ _ _ _ t3 (tm_lot.same s2 hlv)
        have hpm : o.Perm (nmS S :: o') := by rw [← ho']; exact perm_filt hFo.nodup hSo
        have hsub' : ∀ l ∈ o', l ∈ o := fun l hl => hpm.mem_iff.mpr (List.mem_cons_of_mem _ hl)
        have hF1 : Fo T G top (nmS S :: o') := hFo.perm hpm
        have hlen := hpm.length_eq
        rw [List.length_cons] at hlen
        have hlo2 : LotsOk n G top o' := ⟨hlo'.tl, by omega, fun l hl => hlo'.each l (hsub' l hl)⟩
        have hSG : ∀ x ∈ nmS S, x ∈ G.nm := (hlo'.each _ hSo).2.2
        have hSl := (hlo'.each _ hSo).2.1
        have hSm : ∀ x, x ∈ S.nm ↔ x ∈ nmS S := fun x => mem_nmS.symm
        refine r_seq (r_asg (r_call4 (r_fld (r_var rfl ⟨a, C, dx, _, vG, rfl, ha3, L.cls, L.goal, lk_goal .., r_fld (r_var rfl ⟨a, C, dx, _, vTop, rfl, ha3, L.cls, L.top, lk_top .., r_fld (r_var rfl ⟨a, C, dx, _, ov, rfl, ha3, L.cls, L.others, lk_others .., r_var rfl ⟨(G, top, o', nmS S), ⟨_, _, _, _, rfl, hG3, hTop3, hov3, hlv3, hw', hlo2, nmS_ne S, by show (nmS S).length ≤ 100; omega, hSG⟩, fun mv H4 s4 ⟨m, hmet, hmv⟩ => ?_⟩⟩)⟩)⟩))))
        dsimp only at hmet hmv ⊢
        have ha4 := s4 _ _ ha3
        refine r_seq (r_if (gt_use (b := decide (mv = .non)) (gt_test fun Q' q' => r_op (r_var rfl (r_c ⟨rfl, q' _ _ (Same.refl _) rfl⟩))) fun H5 s5 => ?_))
        have s35 := s4.trans s5
        have ha5 := s35 _ _ ha3
        have t05 : Tups H H5 := t03.trans (Same.tups s35)
        have L5 := L3.to s35
        cases hmet with
        | none hf hft =>
          have em : mv = .non := hmv
          subst em
          obtain ⟨htop, hA, hB⟩ := hF1.alone hw.ok hw'.ok hSm hS hf hft
          refine iteT (r_seq (r_sfld (r_var rfl (r_var rfl ⟨a, C, dx, _, rfl, ha5, L.cls, L.top, by simp [ldF], ?_⟩))))
          rw [put_top]
          obtain ⟨dx5, vT5, vG5, vTop5, vO5, xs5, ha5', hM5, hT5, hG5, hTop5, hO5, hms5⟩ := L5.ex
          rw [ha5] at ha5'
          cases ha5'
          have hlv5 := tm_lot.same s35 hlv3
          have L6 := lds_mk (C := C) hS0.new hS0.newM L5.same ha5 hM5 hT5 hG5 hlv5 hO5 hms5
          have t6 : Tups H5 (upd H5 a (.ins C dx (ldF vT vG lv ov pM))) := tups_ins ha5
          have ha6 : upd H5 a (.ins C dx (ldF vT vG lv ov pM)) a = some (.ins C dx (ldF vT vG lv ov pM)) := upd_same
          generalize hH6 : upd H5 a (.ins C dx (ldF vT vG lv ov pM)) = H6 at L6 t6 ha6 ⊢
          have hT6 := tm_tr _ _ _ _ t6 hT5
          have hlv6 := tm_lot _ _ _ _ t6 hlv5
          have lft_gv : ∀ {H7 : Hp} {σ : L2.St}, Same H6 H7 → σ[0]? = some (some (V.ref a)) → σ[1]? = some (some lv) → Gv (tCall (spLeft nm n) [] E0 (tCons (tFld K (tVar 0) "tree") (tCons (tVar 1) tNil))) σ H7 fun H r => LotV nm H r (lft T (nmS S)) := fun s7 e0 e1 =>
            gv_call2 (gv_fld e0 (s7 _ _ ha6) L.cls L.tree (lk_tree ..) (tm_tr.same s7 hT6)) (fun H2 s2 => gv_var (R := fun H r => LotV nm H r (nmS S)) e1 (tm_lot.same (s7.trans s2) hlv6)) fun x y H1 H2 s1 rx s2 ry => ⟨(T, nmS S), ⟨x, y, rfl, tm_tr.same s2 rx, ry, hw, lS⟩, fun r H3 s3 z => z⟩
          refine r_seq (r_if (gt_use (b := decide (lft T (nmS S) ≠ [])) (gt_test (gv_neU N (lft_gv (Same.refl _) rfl rfl) fun x hx => hw.lt x (mem_lft.mp hx).1)) fun H7 s7 => ?_))
          have hsr' : LSrt (nmS S) o' := ⟨srt_nmS S, fun l hl => hsr.2 l (hsub' l hl)⟩
          by_cases hST : S = T
          · have e0 : lft T (nmS S) = [] := List.eq_nil_iff_forall_not_mem.mpr fun x hx => (mem_lft.mp hx).2 (mem_nmS.mpr (hST ▸ (mem_lft.mp hx).1))
            rw [e0]
            refine iteF (r_next ?_)
            exact q _ T (nmS S) o' ms ((t05.trans t6).trans (Same.tups s7)) (L6.to s7) (hA hST) hw hsr' (by omega) (Nat.le_succ _) fun T0 h => h
          · obtain ⟨R, hR⟩ : ∃ R, res (fun x => decide (x ∉ S.nm)) T = some R := by
              cases h : res (fun x => decide (x ∉ S.nm)) T with
              | none => exact (hST (rest_none hw.ok hS h)).elim
              | some R => exact ⟨R, rfl⟩
            have hl : lft T (nmS S) = nmS R := lft_rest (by rw [rest_nmS]; exact hR)
            rw [decide_eq_true (by rw [hl]; exact nmS_ne R)]
            have wR : Wf n R := hw.res hR
            have hRl := wR.lenS
            have hfw := N.few
            refine iteT (r_meth1 rfl (s7 _ _ ha6) (lk_move ..) (r_var rfl (gv_use (lft_gv s7 rfl rfl) fun nv H8 s8 hnv => ⟨H0, a, pM, lv, nv, T, G, S, R, nmS S, nmS R, o', ms, rfl, L6.to (s7.trans s8), tm_lot.same (s7.trans s8) hlv6, by rw [← hl]; exact hnv, hw, hS, hR, nmS_ne R, by omega, fun x hx => mem_nmS.mp hx, by omega, fun H9 T' ms' t9 hmv L9 hle hch => ?_⟩)))
            rw [hd_all] at hmv
            exact q _ T' (nmS S) o' ms' (((t05.trans t6).trans (Same.tups (s7.trans s8))).trans t9) L9 (hB R T' hmv) (hw.mv hmv) hsr' (by omega) hle hch
        | @some pre post N0 mate hanc hf hft hmate =>
          obtain ⟨pm, x, y, rfl, hp, hx, hy⟩ := id hmv
          simp only at hx hy
          have hx5 := tm_lot.same s5 hx
          have hy5 := tm_lot.same s5 hy
          have hlv5 := tm_lot.same s35 hlv3
          have hmo : mate ≠ [] ∧ (∀ z ∈ mate, z ∉ nmS S) ∧ (∀ z ∈ mate, z ∈ T.nm) ∧ mate.length ≤ 10 := by
            rcases hmate with ⟨h1, _⟩ | ⟨h1, h2, _⟩
            · have := hlo.each mate (hsub' _ h1)
              exact ⟨this.1, (hF1.tail_mem h1).1, this.2.2, this.2.1⟩
            · subst h1
              exact ⟨h2, hF1.dj _ List.mem_cons_self, fun z hz => (hFo.cov z).mpr (.inl hz), hlo.tl.1⟩
          obtain ⟨hm1, hm2, hm3, hm4⟩ := hmo
          have hmn : ∀ z ∈ mate, z < n := fun z hz => hw.lt z (hm3 z hz)
          have hmG : mt (el mate) G = true := mtl (fun z hz => (hFo.same z).mp (hm3 z hz)) hm1
          have hmN : mt (el mate) N0 = true := by
            rcases hmate with ⟨_, h⟩ | ⟨h1, _, h⟩
            · exact way_mt h hmG
            · subst h1; exact way_mt h hmG
          obtain ⟨z0, hz0, hz1⟩ := mt_true.mp hmN
          have hz2 : z0 ∈ mate := el_true.mp hz1
          obtain ⟨R, hR⟩ := rest_ex (S := S) (hm3 z0 hz2) fun z => hm2 z0 hz2 (mem_nmS.mpr z)
          generalize hns0 : (mate.filter fun x => decide (x ∈ nmS N0)) = ns at hmv hy hy5 ⊢
          have hns : ∀ x, x ∈ ns ↔ x ∈ N0.nm ∧ x ∈ mate := fun x => by
            rw [← hns0, List.mem_filter, decide_eq_true_iff, mem_nmS]
            exact and_comm
          have hnl : ns.length ≤ 10 := by
            rw [← hns0]; exact Nat.le_trans (List.length_filter_le _ _) hm4
          refine iteF (r_next (r_seq (r_asgP (r_var rfl ⟨pm, [x, y], rfl, SqT.of (s5 _ _ hp), rfl, x, _, rfl, y, _, rfl, rfl, ?_⟩))))
          refine r_seq (r_meth1 rfl ha5 (lk_move ..) (r_var rfl (r_var rfl ⟨H0, a, pM, lv, y, T, G, S, R, top, ns, o', ms, rfl, L5, hlv5, hy5, hw, hS, hR, List.ne_nil_of_mem ((hns z0).mpr ⟨hz0, hz2⟩), by omega, fun z hz => ?_, by omega, fun H6 T' ms' t6 hmv' L6 hle hch => ?_⟩)))
          · have h1 := (hns z).mp hz
            exact (res_mem hR z).mpr ⟨hm3 z h1.2, decide_eq_true fun k => hm2 z h1.2 (mem_nmS.mpr k)⟩
          · have wT' := hw.mv hmv'
            obtain ⟨dx6, vT6, vG6, vTop6, vO6, xs6, ha6, hM6, hT6, hG6, hTop6, hO6, hms6⟩ := L6.ex
            have hx6 := tm_lot _ _ _ _ t6 hx5
            have hlv6 := tm_lot _ _ _ _ t6 hlv5
            have t06 := t05.trans t6
            have hnd : (nmS S ++ mate).Nodup := by
              refine List.nodup_append.mpr ⟨srt_nodup (srt_nmS S), ?_, fun u hu v hv e => hm2 v hv (e ▸ hu)⟩
              rcases hmate with ⟨h1, _⟩ | ⟨h1, _⟩
              · exact srt_nodup (hsr.2 _ (hsub' _ h1))
              · rw [h1]; exact srt_nodup hsr.1
            have hltc : ∀ z ∈ nmS S ++ mate, z < n := fun z hz => (List.mem_append.mp hz).elim (lS z) (hmn z)
            have one_gv : ∀ {H7 : Hp} {σ : L2.St}, Same H6 H7 → σ[1]? = some (some lv) → σ[2]? = some (some x) → Gv (tCall (spOneLot nm n) [] E0 (tCons (tVar 1) (tCons (tVar 2) tNil))) σ H7 fun H r => LotV nm H r (jn n (nmS S) mate) := fun s7 e0 e1 =>
              gv_call2 (gv_var (R := fun H r => LotV nm H r (nmS S)) e0 (tm_lot.same s7 hlv6)) (fun H2 s2 => gv_var (R := fun H r => LotV nm H r mate) e1 (tm_lot.same (s7.trans s2) hx6)) fun x y H1 H2 s1 rx s2 ry => ⟨(nmS S, mate), ⟨x, y, rfl, tm_lot.same s2 rx, ry, hnd, hltc⟩, fun r H3 s3 ⟨M, h1, h2, z⟩ => by rw [← jn_eq lS hmn h1 h2]; exact z⟩
            have hMm : ∀ z, z ∈ jn n (nmS S) mate ↔ z ∈ nmS S ∨ z ∈ mate := fun z => mem_jn lS hmn
            refine r_if (gt_use (b := decide (mate = top)) (gt_test (gv_imp (gv_eqD (da := dL nm mate) (db := dL nm top) (gv_var (R := fun H r => LotV nm H r mate) rfl hx6) (fun H7 s7 => gv_fld (R := fun H r => LotV nm H r top) rfl (s7 _ _ ha6) L.cls L.top (lk_top ..) (tm_lot.same s7 hTop6)) (fun x y H3 H4 s3 rx s4 ry => ⟨dp_lot (tm_lot.same s4 rx), dp_lot ry⟩) (sh_dL N hmn) (sh_dL N hlo.tl.2)) fun r H7 _ e => by rw [e, bool_iff (eqv_dL N hmn hlo.tl.2)])) fun H7 s7 => ?_)
            have L7 := L6.to s7
            have ha7 := s7 _ _ ha6
            by_cases hmt : mate = top
            · rw [decide_eq_true hmt]
              refine iteT (r_sfld (gv_use (one_gv s7 rfl rfl) fun nv H8 s8 hnv => r_var rfl ⟨a, C, dx6, _, rfl, s8 _ _ ha7, L.cls, L.top, by simp [ldF], ?_⟩))
              rw [put_top]
              have s68 := s7.trans s8
              have hN : N0 ∈ wayT (el top) true G := by
                rcases hmate with ⟨h1, h2⟩ | ⟨_, _, h⟩
                · exact (hm1 (List.eq_nil_iff_forall_not_mem.mpr fun z hz => hF1.dj mate (List.mem_cons_of_mem _ h1) z (hmt ▸ hz) hz)).elim
                · exact h
              refine q _ T' (jn n (nmS S) mate) o' ms' ((t06.trans (Same.tups s68)).trans (tups_ins (s8 _ _ ha7))) (lds_mk hS0.new hS0.newM (L6.same.trans s68) (s8 _ _ ha7) (s68 _ _ hM6) (tm_tr.same s68 hT6) (tm_tr.same s68 hG6) hnv ((tm_tup tm_lot).same s68 hO6) (hms6.imp fun _ _ k => tm_mv.same s68 k)) ?_ wT' ⟨srt_jn _ _, fun l hl => hsr.2 l (hsub' l hl)⟩ (by omega) hle hch
              exact hF1.joinTop hw.ok hw'.ok hSm hS hanc hf hft hN (by rw [← hmt]; exact hns) (by rw [← hmt]; exact hMm) hmv' rfl
            · rw [decide_eq_false hmt]
              have hmo' : mate ∈ o' ∧ N0 ∈ wayT (el mate) false G := by
                rcases hmate with h | ⟨h, _⟩
                · exact h
                · exact (hmt h).elim
              refine iteF (r_sfld (gv_use (gv_tupOf (K := K) (fun as => as = o'.map fun c => if c = mate then jn n (nmS S) mate else c) (tm_lot (nm := nm)) (gv_imp (gv_lcT0 (fun c => if c = mate then jn n (nmS S) mate else c) (fun as => as = o') (tm_lot (nm := nm)) (tm_lot (nm := nm)) (gv_fld (R := fun H r => ∃ as, as = o' ∧ SqTV K (LotV nm) H r as) rfl ha7 L.cls L.others (lk_others ..) ⟨o', rfl, ((tm_tup tm_lot).same s7 hO6).sq⟩) (fun _ e => by rw [e]; omega) (fun _ => rfl) ?_) fun r H8 s8 ⟨as, e, z⟩ => ⟨_, rfl, by rw [e] at z; exact z.l⟩)) fun nv H8 s8 ⟨_, eo, hnv⟩ => r_var rfl ⟨a, C, dx6, _, rfl, s8 _ _ ha7, L.cls, L.others, by simp [ldF], ?_⟩))
              · rintro _ u c H8 rfl hc s8 ru Q' q'
                have hcn := hlt c (hsub' c hc)
                refine r_ifE (gt_use (b := decide (c = mate)) (gt_test (gv_imp (gv_eqD (da := dL nm c) (db := dL nm mate) (gv_var (R := fun H r => LotV nm H r c) rfl ru) (fun H9 s9 => gv_var (R := fun H r => LotV nm H r mate) rfl (tm_lot.same ((s7.trans s8).trans s9) hx6)) (fun x y H3 H4 s3 rx s4 ry => ⟨dp_lot (tm_lot.same s4 rx), dp_lot ry⟩) (sh_dL N hcn) (sh_dL N hmn)) fun r H7 _ e => by rw [e, bool_iff (eqv_dL N hcn hmn)])) fun H9 s9 => ?_)
                by_cases e : c = mate
                · rw [decide_eq_true e]
                  rw [if_pos e] at q'
                  exact iteT (gv_use (one_gv ((s7.trans s8).trans s9) rfl rfl) fun r H10 s10 z => q' _ _ (s9.trans s10) z)
                · rw [decide_eq_false e]
                  rw [if_neg e] at q'
                  exact iteF (r_var rfl (q' _ _ s9 (tm_lot.same s9 ru)))
              · subst eo
                rw [put_others]
                have s68 := s7.trans s8
                have ho'n : o'.Nodup := by rw [← ho']; exact hFo.nodup.filter _
                have hp2 := perm_filt ho'n hmo'.1
                have hrest : ((mate :: o'.filter fun m => decide (m ≠ mate)).map fun c => if c = mate then jn n (nmS S) mate else c) = jn n (nmS S) mate :: o'.filter fun m => decide (m ≠ mate) := by
                  rw [List.map_cons, if_pos rfl]
                  refine congrArg _ ?_
                  exact (List.map_congr_left (g := id) fun c hc => if_neg (of_decide_eq_true (List.mem_filter.mp hc).2)).trans (List.map_id _)
                have hp3 : (o'.map fun c => if c = mate then jn n (nmS S) mate else c).Perm (jn n (nmS S) mate :: o'.filter fun m => decide (m ≠ mate)) := by
                  rw [← hrest]; exact hp2.map _
                refine q _ T' top (o'.map fun c => if c = mate then jn n (nmS S) mate else c) ms' ((t06.trans (Same.tups s68)).trans (tups_ins (s8 _ _ ha7))) (lds_mk hS0.new hS0.newM (L6.same.trans s68) (s8 _ _ ha7) (s68 _ _ hM6) (tm_tr.same s68 hT6) (tm_tr.same s68 hG6) (tm_lot.same s68 hTop6) hnv (hms6.imp fun _ _ k => tm_mv.same s68 k)) ?_ wT' ⟨hsr.1, fun l hl => ?_⟩ (by rw [List.length_map]; omega) hle hch
                · have hF2 : Fo T G top (nmS S :: mate :: o'.filter fun m => decide (m ≠ mate)) := hF1.perm (hp2.cons _)
                  exact (hF2.joinOne hw.ok hw'.ok hSm hS hanc (fun N' hN' l hl => hf N' hN' l (hp2.mem_iff.mpr hl)) hft hmo'.2 hns hMm hmv' rfl).perm hp3.symm
                · obtain ⟨c, hc, rfl⟩ := List.mem_map.mp hl
                  by_cases e : c = mate
                  · rw [if_pos e]; exact srt_jn _ _
                  · rw [if_neg e]; exact hsr.2 c (hsub' c hc)
/-! ### moves_by -/
theorem r_make3 {ta tb tc : TE} {σ : L2.St} {H : Hp} {Q : VK} {C : Addr} {sp : Sp} {E : XK} (h : ta σ H fun x H1 => tb σ H1 fun y H2 => tc σ H2 fun z H3 => ∀ a dx, H3 a = none → H3 dx = none → dx ≠ a → sp [.ref a, x, y, z] (upd (upd H3 dx (.own a)) a (.ins C dx [])) (fun v H2 => v = .non ∧ Q (.ref a) H2) E) : tMake C sp [] E (tCons ta (tCons tb (tCons tc tNil))) σ H Q := h
theorem gv_neUs (N : Nm nm n) {ta : TE} {σ : L2.St} {H : Hp} {o : List (List Nat)} (ha : Gv ta σ H fun H1 v => TupV (LotV nm) H1 v o) (hl : ∀ l ∈ o, ∀ x ∈ l, x < n) : Gv (tOp (rNeD K) ta (tTup tNil)) σ H fun _ r => r = .bl (decide (o ≠ [])) :=
  gv_imp (gv_neD (da := dLs nm o) (db := .tuple []) ha (fun H2 s2 => gv_unit (α := Nat) (RA := NmV nm)) (fun x y H2 H3 s2 rx s3 ⟨p, ys, ey, hy, ry⟩ => ⟨dp_lots ((tm_tup tm_lot).same s3 rx), by rw [ey]; cases ry; exact .tup (SqT.of hy) .nil⟩) (sh_dLs N hl) sh_nil) fun r H3 _ e => by
    rw [e]
    cases o <;> simp [dLs, PyData.eqv, PyData.eqvAll]
def spMovesBy (nm : Nat → Str) (n : Nat) : Sp := Pur (ι := Tr × Tr × List Nat × List (List Nat)) (fun i vs H => ∃ v v' u, vs = [v, v', u] ∧ TrV nm H v i.1 ∧ TrV nm H v' i.2.1 ∧ FoV nm H u (i.2.2.1, i.2.2.2) ∧ Wf n i.1 ∧ Wf n i.2.1 ∧ Fo i.1 i.2.1 i.2.2.1 i.2.2.2 ∧ PartsOk nm n (nmS i.1) i.2.2.1 i.2.2.2)
  (fun i H0 H r => ∃ ms, LstN (MvV nm) H0 H r ms ∧ Ch i.1 ms i.2.1 ∧ ms.length ≤ i.2.2.2.length)
theorem sc_moves_by : FnScope ["one", "other", "forest", "leading"] ["one", "other", "forest"] (defScope s_moves_by) := ⟨rfl, rfl, rfl, by decide +kernel, rfl, by decide +kernel, by decide +kernel⟩
theorem ok_moves_by {C : Addr} (F : FnD K "moves_by" s_moves_by f fd) (B : Bi mg) (N : Nm nm n) (L : LdC K C) (c_lets_forest : CalD P w K mg base 26 "lets_forest" ["one", "other", "thing", "ringless"] (spLets nm n) [.bl false]) (c_Leading : CalC P w K mg base 1 C "Leading" ["self", "tree", "goal", "forest"] (spInit nm n C)) (m_go_on : CalM P w K mg base 28 C "go_on" ["self"] (spGoOn nm n C)) :
    FnOk P w K mg base CX0 29 f fd ["one", "other", "forest"] (spMovesBy nm n) := by
  refine F.ok sc_moves_by (fun vs H Q E h => ?_) (fun cdv A outer s H vs Q E hr h => ?_)
  · obtain ⟨_, ⟨_, _, _, rfl, _⟩, _⟩ := h; rfl
  · obtain ⟨⟨T, G, top, o⟩, ⟨v, v', u, rfl, hv, hv', hu', hw, hw', hFo, hP⟩, q⟩ := h
    simp only at hv hv' hu' hw hw' hFo hP
    have hu := hr.units
    refine ⟨_, PSs.nox (pss_cons (ps_if (pt_not (pt_val (pe_calD c_lets_forest (hr.mono (by first | decide | omega)) (pa_cons (pv 0) (pa_cons (pv 1) (pa_cons (pv 2) pa_nil)))))) (pss_one (ps_never)) pss_nil)
      (pss_cons (ps_set (i := 3) sc_moves_by.nd rfl (by first | exact Or.inl rfl | exact Or.inr rfl) (pe_calC c_Leading (hr.mono (by first | decide | omega)) (pa_cons (pv 0) (pa_cons (pv 1) (pa_cons (pv 2) pa_nil)))))
      (pss_cons (ps_while PassesOwn.never (pt_cmpR (neD K hu) (pe_fld (pv 3) rfl) (pe_tup pa_nil) (by rfl)) (pss_one (ps_expr (pe_calM0 m_go_on (pv 3) (hr.mono (by first | decide | omega))))))
      (pss_one (ps_ret (pe_fld (pv 3) rfl)))))), ?_⟩
    have hsr : LSrt top o := ⟨hP.tr, fun l hl => (hP.each l hl).2⟩
    have hlo := sinv_lots (fo_sinv hFo hsr) hw N
    have hlo' := lots_other hlo hFo.same
    have hol := hlo.ol
    refine r_seq (r_if (gt_use (gt_not (b := true) (gt_gv fun Q' q' => r_callD3 (r_var rfl (r_var rfl (r_var rfl ⟨(T, G, top, o), ⟨v, v', u, rfl, hv, hv', hu', hw, hw', hP, hlo, hlo', fo_share hFo⟩, fun r H2 s2 e => q' _ _ s2 e⟩))))) fun H1 s1 => iteF (r_next ?_)))
    refine r_seq (r_asg (r_make3 (r_var rfl (r_var rfl (r_var rfl fun a dx ha hdx hne => ?_)))))
    have sN : Same H1 (upd (upd H1 dx (.own a)) a (.ins C dx [])) := (same_new hdx _).trans (same_new (by rw [upd_ne (Ne.symm hne)]; exact ha) _)
    have s1N := s1.trans sN
    refine ⟨H, a, dx, v, v', u, T, G, top, o, rfl, upd_same, s1.free ha, s1N, tm_tr.same s1N hv, tm_tr.same s1N hv', tm_fo.same s1N hu', fun H2 pM t2 L2 => ⟨rfl, ?_⟩⟩
    refine r_seq ⟨fun m σ H' => ∃ T' top' o' ms', m = o'.length ∧ σ = [some v, some v', some u, some (.ref a)] ∧ LdS nm C a pM H H' T' G top' o' ms' ∧ Fo T' G top' o' ∧ Wf n T' ∧ LSrt top' o' ∧ ms'.length + o'.length ≤ o.length ∧ Ch T ms' T', ⟨_, T, top, o, [], rfl, rfl, L2, hFo, hw, hsr, by simp, .nil⟩, ?_⟩
    rintro m σ H3 ⟨T', top', o', ms', rfl, rfl, L3, hF3, w3, sr3, hle, hch⟩
    obtain ⟨dx3, vT, vG, vTop, vO, xs, ha3, hM3, hT3, hG3, hTop3, hO3, hms3⟩ := L3.ex
    have hlo3 := sinv_lots (fo_sinv hF3 sr3) w3 N
    refine gt_use (b := decide (o' ≠ [])) (gt_test (gv_neUs N (gv_fld rfl ha3 L.cls L.others (lk_others ..) hO3) fun l hl x hx => w3.lt x ((hlo3.each l hl).2.2 x hx))) fun H4 s4 => ?_
    by_cases he : o' = []
    · rw [decide_eq_false (fun z => z he)]
      refine iteF ?_
      subst he
      have hTG := hF3.eq_of_nil w3.ok hw'.ok
      subst hTG
      refine r_ret (gv_use (gv_fld (R := fun _ r => r = .ref pM) rfl (s4 _ _ ha3) L.cls L.moves (lk_moves ..) rfl) fun r H5 s5 e => q _ _ ((L3.same.trans s4).trans s5) ⟨ms', ⟨pM, xs, e, L3.newM, (s4.trans s5) _ _ hM3, hms3.imp fun _ _ k => tm_mv.same (s4.trans s5) k⟩, hch, by simpa using hle⟩)
    · rw [decide_eq_true he]
      refine iteT ⟨fun σ' H' => ∃ T' top' o'' ms', o''.length < o'.length ∧ σ' = [some v, some v', some u, some (.ref a)] ∧ LdS nm C a pM H H' T' G top' o'' ms' ∧ Fo T' G top' o'' ∧ Wf n T' ∧ LSrt top' o'' ∧ ms'.length + o''.length ≤ o.length ∧ Ch T ms' T', fun σ' H' ⟨T', top', o'', ms', h1, h2⟩ => ⟨_, h1, T', top', o'', ms', rfl, h2⟩, ?_⟩
      exact r_meth0 rfl (s4 _ _ ha3) (lk_go ..) ⟨H, a, pM, T', G, top', o', ms', rfl, L3.to s4, hF3, w3, hw', sr3, he, by omega, fun H5 T2 top2 o2 ms2 t5 L5 hF5 w5 sr5 hl5 hm5 hc5 => ⟨T2, top2, o2, ms2, by omega, rfl, L5, hF5, w5, sr5, by omega, hc5 T hch⟩⟩
/-! ### fewest_moves -/
def spFewestMoves (nm : Nat → Str) (n : Nat) : Sp := Pur (ι := Tr × Tr) (fun i vs H => ∃ v v', vs = [v, v'] ∧ TrV nm H v i.1 ∧ TrV nm H v' i.2 ∧ Wf n i.1 ∧ Wf n i.2 ∧ ∀ x, x ∈ i.1.nm ↔ x ∈ i.2.nm)
  (fun i H0 H r => ∃ m top o ms p u l, r = .ref p ∧ H p = some (.tup [u, l]) ∧ FoV nm H u (top, o) ∧ Fewest i.1 i.2 m ∧ o.length = m ∧ LstN (MvV nm) H0 H l ms ∧ Ch i.1 ms i.2 ∧ ms.length ≤ m)
theorem sc_fewest_moves : FnScope ["one", "other", "forest"] ["one", "other"] (defScope s_fewest_moves) := ⟨rfl, rfl, rfl, by decide +kernel, rfl, by decide +kernel, by decide +kernel⟩
theorem ok_fewest_moves (F : FnD K "fewest_moves" s_fewest_moves f fd) (B : Bi mg) (N : Nm nm n) (c_fewest_forest : CalD P w K mg base 32 "fewest_forest" ["one", "other", "ringless"] (spFewest nm n) [.bl false]) (c_moves_by : Cal P w K mg base 29 "moves_by" ["one", "other", "forest"] (spMovesBy nm n)) : FnOk P w K mg base CX0 33 f fd ["one", "other"] (spFewestMoves nm n) := by
  refine F.ok sc_fewest_moves (fun vs H Q E h => ?_) (fun cdv A outer s H vs Q E hr h => ?_)
  · obtain ⟨_, ⟨_, _, rfl, _⟩, _⟩ := h; rfl
  · obtain ⟨⟨T, G⟩, ⟨v, v', rfl, hv, hv', hw, hw', same⟩, q⟩ := h
    simp only at hv hv' hw hw' same
    refine ⟨_, PSs.nox (pss_cons (ps_set (i := 2) sc_fewest_moves.nd rfl (by first | exact Or.inl rfl | exact Or.inr rfl) (pe_calD c_fewest_forest (hr.mono (by first | decide | omega)) (pa_cons (pv 0) (pa_cons (pv 1) pa_nil))))
      (pss_one (ps_ret (pe_tup (pa_cons (pv 2) (pa_cons (pe_cal c_moves_by (hr.mono (by first | decide | omega)) (pa_cons (pv 0) (pa_cons (pv 1) (pa_cons (pv 2) pa_nil)))) pa_nil)))))), ?_⟩
    refine r_seq (r_asg (r_callD2 (r_var rfl (r_var rfl ⟨(T, G), ⟨v, v', rfl, hv, hv', hw, hw', same⟩, fun fv H1 s1 ⟨m, top, o, hfo, hf, hl, hF, hP⟩ => ?_⟩))))
    dsimp only at hfo hf hl hF hP ⊢
    refine r_ret (gv_use (gv_pairG (Ra := fun H r => FoV nm H r (top, o)) (Rb := fun H3 r => ∃ ms, LstN (MvV nm) H1 H3 r ms ∧ Ch T ms G ∧ ms.length ≤ o.length) (Rr := fun H2 r => ∃ p u l ms, r = .ref p ∧ H2 p = some (.tup [u, l]) ∧ FoV nm H2 u (top, o) ∧ LstN (MvV nm) H H2 l ms ∧ Ch T ms G ∧ ms.length ≤ o.length) (gv_var (R := fun H r => FoV nm H r (top, o)) rfl hfo) (fun H2 s2 => gv_call3 (R := fun H3 r => ∃ ms, LstN (MvV nm) H1 H3 r ms ∧ Ch T ms G ∧ ms.length ≤ o.length) (gv_var (R := fun H r => TrV nm H r T) rfl (tm_tr.same (s1.trans s2) hv)) (fun H3 s3 => gv_var (R := fun H r => TrV nm H r G) rfl (tm_tr.same ((s1.trans s2).trans s3) hv')) (fun H3 s3 => gv_var (R := fun H r => FoV nm H r (top, o)) rfl (tm_fo.same (s2.trans s3) hfo)) fun x y z H3 H4 H5 s3 rx s4 ry s5 rz => ⟨(T, G, top, o), ⟨x, y, z, rfl, tm_tr.same (s4.trans s5) rx, tm_tr.same s5 ry, rz, hw, hw', hF, hP⟩, fun r H6 s6 ⟨ms, h1, h2, h3⟩ => ⟨ms, h1.back (((s2.trans s3).trans s4).trans s5), h2, h3⟩⟩)
      fun x y H2 H3 p s2 rx s3 ⟨ms, h1, h2, h3⟩ hp => ⟨p, x, y, ms, rfl, upd_same, tm_fo.same (s3.trans (same_new hp _)) rx, ?_, h2, h3⟩) fun r H2 s2 ⟨p, u, l, ms, e, hp, h1, h2, h3, h4⟩ => q _ _ (s1.trans s2) ⟨m, top, o, ms, p, u, l, e, hp, h1, hf, hl, h2, h3, by omega⟩)
    obtain ⟨p2, ys, e2, f2, hp2, r2⟩ := h1
    exact ⟨p2, ys, e2, s1.free f2, (same_new hp _) _ _ hp2, r2.imp fun _ _ k => tm_mv.same (same_new hp _) k⟩
end
end Jw
end

section
set_option Elab.async false
set_option linter.all false
set_option maxRecDepth 100000
set_option maxHeartbeats 4000000
/-! The law's own defs: least, fork, below, to, lots, nodes. -/
namespace Jw
open PySem PySem.Spec PyProof.Rows L2 Jt JH
/-! ### comprehensions with two names -/
section
variable {α β γ : Type} {K : PySem.W.Frag} {te tl : TE} {vs : List Nat} {σ : L2.St} {H : Hp} {j1 j2 : Nat} {RA : Hp → V → α → Prop} {RB : Hp → V → β → Prop} {RC : Hp → V → γ → Prop}
/-- [e for k, x in enumerate(a list)] -/
theorem gv_lcE (e : α × Nat → β) (Pa : List α → Prop) (mA : TM RA) (mB : TM RB) (hl : Gv tl σ H fun H1 v => ∃ as, Pa as ∧ SqLV K RA H1 v as) (hs : ∀ as, Pa as → as.length ≤ 100000)
    (hw : ∀ x y, wipe (((wipe σ vs).set j1 (some x)).set j2 (some y)) vs = wipe σ vs)
    (he : ∀ as x c i H2, Pa as → as[i]? = some c → Same H H2 → RA H2 x c → Gv te (((wipe σ vs).set j1 (some (.int (i : Nat)))).set j2 (some x)) H2 fun H3 y => RB H3 y (e (c, i))) :
    Gv (tLc (iEnum K (tCons tl tNil)) (gTup K 2 (gCons (gName j1) (gCons (gName j2) gNil))) tYes te vs) σ H fun H1 v => ∃ as, Pa as ∧ LstN RB H H1 v (as.zipIdx.map e) := fun Q q => by
  refine hl _ fun v H1 s1 ⟨as, pa, a, xs, ev, hx, hr⟩ => ⟨a, xs, by rw [ev], hx, ?_⟩
  refine lc_do (walk_enum (xs := xs)) as.zipIdx (by rw [List.length_zipIdx, hr.len]) (by rw [hr.len]; exact hs as pa) (fun _ => true) e mB (fun H s => s.seq hx) (fun i c x H2 H3 hc s y => ?_) fun p ys H' hp s hp' r => q _ _ (s1.trans s) ⟨as, pa, p, ys, rfl, s1.free hp, hp', by rw [filt_true] at r; exact r⟩
  obtain ⟨T, kx, x1, rfl, hT, rfl, e1, e2⟩ := y
  cases e1
  obtain ⟨b, hb, r⟩ := hr.get e2
  rw [List.getElem?_zipIdx, hb] at hc
  simp only [Nat.zero_add, Option.map_some, Option.some.injEq] at hc
  subst hc
  have s3 : Same H2 (upd H2 T (.tup [.int (i : Nat), x1])) := same_new hT _
  refine ⟨s3, fun Qg k => ⟨T, _, rfl, SqT.of upd_same, rfl, _, _, rfl, _, _, rfl, rfl, ?_⟩⟩
  exact k _ _ (Same.refl _) (hw _ _) gt_yes fun _ H5 s5 => he as x1 b i H5 pa hb (((s1.trans s).trans s3).trans s5) (mA.same ((s.trans s3).trans s5) r)
/-- [e for x, y in a list of pairs] -/
theorem gv_lcP (e : α × γ → β) (Pa : List (α × γ) → Prop) (mA : TM RA) (mC : TM RC) (mB : TM RB) (hl : Gv tl σ H fun H1 v => ∃ as, Pa as ∧ SqLV K (PrV RA RC) H1 v as) (hs : ∀ as, Pa as → as.length ≤ 100000)
    (hw : ∀ x y, wipe (((wipe σ vs).set j1 (some x)).set j2 (some y)) vs = wipe σ vs)
    (he : ∀ as x y c H2, Pa as → c ∈ as → Same H H2 → RA H2 x c.1 → RC H2 y c.2 → Gv te (((wipe σ vs).set j1 (some x)).set j2 (some y)) H2 fun H3 z => RB H3 z (e c)) :
    Gv (tLc (iList K tl) (gTup K 2 (gCons (gName j1) (gCons (gName j2) gNil))) tYes te vs) σ H fun H1 v => ∃ as, Pa as ∧ LstN RB H H1 v (as.map e) := fun Q q => by
  refine hl _ fun v H1 s1 ⟨as, pa, a, xs, ev, hx, hr⟩ => ⟨a, ev, ⟨xs, hx⟩, ?_⟩
  refine lc_do (walk_list (xs := xs)) as hr.len.symm (by rw [hr.len]; exact hs as pa) (fun _ => true) e mB (fun H s => s.seq hx) (fun i c x H2 H3 hc s y => ?_) fun p ys H' hp s hp' r => q _ _ (s1.trans s) ⟨as, pa, p, ys, rfl, s1.free hp, hp', by rw [filt_true] at r; exact r⟩
  obtain ⟨rfl, hi⟩ := y
  obtain ⟨b, hb, r⟩ := hr.get hi
  rw [hc] at hb
  cases hb
  have hm : c ∈ as := List.mem_of_getElem? hc
  obtain ⟨p, x1, y1, rfl, hp, rx, ry⟩ := r
  refine ⟨Same.refl _, fun Qg k => ⟨p, _, rfl, SqT.of (s _ _ hp), rfl, _, _, rfl, _, _, rfl, rfl, ?_⟩⟩
  exact k _ _ (Same.refl _) (hw _ _) gt_yes fun _ H5 s5 => he as x1 y1 c H5 pa hm ((s1.trans s).trans s5) (mA.same (s.trans s5) rx) (mC.same (s.trans s5) ry)
end
theorem pg_tupK {X : Cx} (K : PySem.W.Frag) {es : List Expr} {k : Nat} {t : TGs} {n : Nat} {pos : Pos} (hc : X.calm = true) (h : PGs X es t) (hK : X.K = K := by rfl)
    (hn : (assignEach es X.env).length = n := by rfl) (hst : (assignEach es X.env).findIdx? (·.1) = none := by rfl) : PG X (.Tuple es k pos) (gTup K n t) := hK ▸ pg_tup hc h hn hst
theorem dataLt_pair {x y : PyData} {r t : List PyData} {p q : Int ⊕ List Nat} (hx : PySem.W.keyToks x = [p]) (hy : PySem.W.keyToks y = [q]) (h : p ≠ q) : PySem.W.dataLt (.tuple (x :: r)) (.tuple (y :: t)) = PySem.W.dataLt x y := by
  unfold PySem.W.dataLt
  rw [PySem.W.keyToks, PySem.W.keyToks, PySem.W.keyToksAll, PySem.W.keyToksAll, hx, hy]
  have h1 := PySem.W.lex_pre [.inl 1] ([p] ++ PySem.W.keyToksAll r) ([q] ++ PySem.W.keyToksAll t)
  exact h1.trans (PySem.W.lex_atom h _ _)
theorem dataLt_int (i j : Int) : PySem.W.dataLt (.int i) (.int j) = decide (i < j) := by
  unfold PySem.W.dataLt
  simp only [PySem.W.keyToks]
  rw [PySem.W.lex_one]
  rfl
section
variable {P : Program} {w : World} {K : PySem.W.Frag} {mg : Str → Option Value} {base : Heap} {f : Addr} {fd : FuncData} {nm : Nat → Str} {n : Nat}
/-! ### _law_least -/
theorem sc__law_least : FnScope ["_law_tree_here"] ["_law_tree_here"] (defScope s_lawleast) := ⟨rfl, rfl, rfl, by decide +kernel, rfl, by decide +kernel, by decide +kernel⟩
theorem ok__law_least (F : FnD K "_law_least" s_lawleast f fd) (B : Bi mg) : FnOk P w K mg base CX0 1 f fd ["_law_tree_here"] (spFirst nm) := by
  refine F.ok sc__law_least (fun vs H Q E h => ?_) (fun cdv A outer s H vs Q E hr h => ?_)
  · obtain ⟨t, ⟨v, rfl, _⟩, _⟩ := h; rfl
  · obtain ⟨t, ⟨v, rfl, hv⟩, q⟩ := h
    refine ⟨_, PSs.nox (pss_cons (ps_while PassesOwn.never (pt_not (pt_val (pe_callB (isiQ K) (by rfl) B.isinstance boot_isinstance (pa_cons (pv 0) (pa_cons (pe_bltn (v := .ty "str") (by rfl) B.str boot_str rfl) pa_nil))))) (pss_one (ps_set (i := 0) sc__law_least.nd rfl (by first | exact Or.inl rfl | exact Or.inr rfl) (pe_ix (ixT K) (pv 0) (pe_int) (fun _ _ => rfl)))))
      (pss_one (ps_ret (pv 0)))), ?_⟩
    refine r_seq ⟨fun m σ H' => Same H H' ∧ ∃ x t', σ = [some x] ∧ TrV nm H' x t' ∧ t'.fst = t.fst ∧ t'.sz = m, ⟨t.sz, Same.refl _, v, t, rfl, hv, rfl, rfl⟩, ?_⟩
    rintro m σ H' ⟨s0, x, t', rfl, hx, e1, rfl⟩
    refine gt_use (gt_not (b := isLf t') (gt_gv (gv_isStr (gv_var rfl hx)))) fun H1 s1 => ?_
    cases hx with
    | lf i =>
      refine iteF (r_ret (r_var rfl (q _ _ (s0.trans s1) ?_)))
      show sv nm i = sv nm t.fst
      rw [← e1]; rfl
    | @fk p y z a b e h1 h2 =>
      refine iteT ⟨fun σ' H'' => H'' = H1 ∧ σ' = [some y], ?_, ?_⟩
      · rintro _ _ ⟨rfl, rfl⟩
        exact ⟨a.sz, by simp only [Tr.sz]; omega, s0.trans s1, y, a, rfl, tm_tr.same s1 h1, e1, rfl⟩
      · exact r_asg (r_op (r_var rfl (r_c ⟨p, _, _, y, rfl, rfl, SqT.of (s1 _ _ e), atI_nat (j := 0) rfl, rfl, rfl⟩)))
/-! ### _law_fork -/
def NtV (_ : Hp) (v : V) (k : Nat) : Prop := v = .int (k : Nat)
theorem tm_in : TM NtV := fun _ _ _ _ _ h => h
def dFI (nm : Nat → Str) (c : Nat × Nat) : PyData := .tuple [dN nm c.1, .int (c.2 : Nat)]
theorem dp_fi {H : Hp} {v : V} {c : Nat × Nat} (h : PrV (NmV nm) NtV H v c) : Dp K H v (dFI nm c) := by
  obtain ⟨p, x, y, rfl, hp, hx, hy⟩ := h
  exact .tup (SqT.of hp) (.cons (dp_nm hx) (.cons (by rw [show y = _ from hy]; exact .int _) .nil))
theorem perm2 {α : Type} {bs : List α} {x y : α} (h : bs.Perm [x, y]) : bs = [x, y] ∨ bs = [y, x] := by
  have hl := h.length_eq
  match bs, hl, h with
  | [u, v], _, h =>
    rcases List.mem_cons.mp (h.mem_iff.mp List.mem_cons_self) with e | e
    · subst e
      have := List.singleton_perm_singleton.mp (h.cons_inv)
      exact .inl (by rw [this])
    · have e := List.mem_singleton.mp e
      subst e
      have := List.singleton_perm_singleton.mp ((h.trans (List.Perm.swap _ _ _)).cons_inv)
      exact .inr (by rw [this])
theorem lt_fi (N : Nm nm n) {c d : Nat × Nat} (hc : c.1 < n) (hd : d.1 < n) (hne : c.1 ≠ d.1) : PySem.W.dataLt (dFI nm c) (dFI nm d) = decide (c.1 < d.1) := by
  unfold dFI
  rw [dataLt_pair (p := .inr (nm c.1).cps.toList) (q := .inr (nm d.1).cps.toList) (by simp only [PySem.W.keyToks]) (by simp only [PySem.W.keyToks]) fun e => N.ne hc hd hne (PySem.W.str_of_cps (Sum.inr.inj e)), PySem.W.dataLt_str]
  exact decide_eq_decide.mpr (lt_sv N hc hd)
theorem sc__law_fork : FnScope ["_law_parts", "_law_order", "_law_k", "_law_part", "_law_least_here"] ["_law_parts"] (defScope s_lawfork) := ⟨rfl, rfl, rfl, by decide +kernel, rfl, by decide +kernel, by decide +kernel⟩
theorem ok__law_fork (F : FnD K "_law_fork" s_lawfork f fd) (B : Bi mg) (N : Nm nm n) (c__law_least : Cal P w K mg base 1 "_law_least" ["_law_tree_here"] (spFirst nm)) : FnOk P w K mg base CX0 2 f fd ["_law_parts"] (spFork nm n) := by
  refine F.ok sc__law_fork (fun vs H Q E h => ?_) (fun cdv A outer s H vs Q E hr h => ?_)
  · obtain ⟨as, ⟨v, rfl, _⟩, _⟩ := h; rfl
  · obtain ⟨as, ⟨v, rfl, hv, hw, hc⟩, q⟩ := h
    have hu := hr.units
    refine ⟨_, PSs.nox (pss_cons (ps_if (pt_cmpR op_eq (pe_callB (lenQ K) (by rfl) B.len boot_len (pa_cons (pv 0) pa_nil)) (pe_int) (by rfl)) (pss_one (ps_ret (pe_ix (ixL K) (pv 0) (pe_int) (fun _ _ => rfl)))) pss_nil)
      (pss_cons (ps_set (i := 1) sc__law_fork.nd rfl (by first | exact Or.inl rfl | exact Or.inr rfl) (pe_callB (sortQ K hu) (by rfl) B.sorted boot_sorted (pa_cons (pe_lc (own := [("_law_k", 2), ("_law_part", 3)]) rfl sc__law_fork.nd (pi_enum (by rfl) B.enumerate (pa_cons (pv 0) pa_nil)) (blkOk_by (N := ["_law_parts", "_law_order", "_law_k", "_law_part", "_law_least_here"]) (sc := defScope s_lawfork) (by decide +kernel)) (fun _ _ _ _ _ => (pg_tupK (n := 2) K rfl (pgs_cons (pg_name (i := 2) sc__law_fork.nd rfl (by first | exact Or.inl rfl | exact Or.inr rfl)) (pgs_cons (pg_name (i := 3) sc__law_fork.nd rfl (by first | exact Or.inl rfl | exact Or.inr rfl)) pgs_nil)))) (fun _ _ _ _ _ => pts_nil) (fun _ _ _ _ _ => (pe_tup (pa_cons (pe_cal c__law_least (hr.mono (by first | decide | omega)) (pa_cons (pv 3) pa_nil)) (pa_cons (pv 2) pa_nil))))) pa_nil)))
      (pss_one (ps_ret (pe_callTy (tupQ K) (by rfl) B.tuple boot_tuple (pa_cons (pe_lc (own := [("_law_least_here", 4), ("_law_k", 2)]) rfl sc__law_fork.nd (piL K (pv 1)) (blkOk_by (N := ["_law_parts", "_law_order", "_law_k", "_law_part", "_law_least_here"]) (sc := defScope s_lawfork) (by decide +kernel)) (fun _ _ _ _ _ => (pg_tupK (n := 2) K rfl (pgs_cons (pg_name (i := 4) sc__law_fork.nd rfl (by first | exact Or.inl rfl | exact Or.inr rfl)) (pgs_cons (pg_name (i := 2) sc__law_fork.nd rfl (by first | exact Or.inl rfl | exact Or.inr rfl)) pgs_nil)))) (fun _ _ _ _ _ => pts_nil) (fun _ _ _ _ _ => (pe_ix (ixL K) (pv 0) (pv 2) (fun _ _ => rfl)))) pa_nil)))))), ?_⟩
    obtain ⟨p, xs, rfl, hp, r⟩ := id hv
    refine r_seq (r_if (gt_use (b := decide (as.length = 1)) (gt_test fun Q' q' => r_op (gv_use (gv_len (n := as.length) (gv_var rfl ⟨p, xs, rfl, .inl (SqL.of hp), r.len⟩)) fun x H1 s1 e => r_c ⟨by rw [e]; rfl, q' _ _ s1 ?_⟩)) fun H1 s1 => ?_))
    · rw [e]; congr 1; simp; omega
    · rcases hc with ⟨a, rfl⟩ | ⟨a, b, rfl, hne⟩
      · cases r with
        | cons r1 r =>
          cases r
          refine iteT (r_ret (r_op (r_var rfl (r_c ⟨p, _, _, _, rfl, rfl, SqL.of (s1 _ _ hp), atI_nat (j := 0) rfl, q _ _ s1 ⟨a, rfl, tm_tr.same s1 r1⟩⟩))))
      · have ha := (hw a (by simp)).lt _ (fst_mem a)
        have hb := (hw b (by simp)).lt _ (fst_mem b)
        refine iteF (r_next (r_seq (r_asg (gv_use (gv_sorted (d := dFI nm) (fun as => as = [(a.fst, 0), (b.fst, 1)]) (tm_pr (tm_nm (nm := nm)) tm_in) (gv_imp (gv_lcE (fun c => (c.1.fst, c.2)) (fun as => as = [a, b]) (tm_tr (nm := nm)) (tm_pr (tm_nm (nm := nm)) tm_in) (gv_var (R := fun H r => ∃ as, as = [a, b] ∧ SqLV K (TrV nm) H r as) rfl ⟨_, rfl, (hv.same tm_tr s1).sq⟩) (fun _ e => by rw [e]; simp) (fun _ _ => rfl) ?_) fun r H2 s2 ⟨as, e, z⟩ => ⟨_, rfl, by rw [e] at z; exact z.l.sq.q⟩) (fun as v a H1 _ _ r => dp_fi r) (fun as _ => PySem.W.AllAlike.of fun _ _ => by simp [dFI, PySem.W.alike, PySem.W.alikeAll]) (fun as _ => .inl fun d hd => by
          obtain ⟨l, hl, rfl⟩ := List.mem_map.mp hd
          exact ⟨_, _, rfl⟩) (fun as _ a _ => by simp [dFI, PyData.depth, PyData.depthAll])) fun ov H2 s2 ⟨as, bs, e, pm, sr, hb2⟩ => ?_))))
        · rintro _ x c i H2 rfl hci s2 rx
          refine gv_pair (a := c.fst) (b := i) (tm_nm (nm := nm)) tm_in (gv_call1 (R := fun _ r => r = sv nm c.fst) (gv_var rfl rx) fun x H1 s1 rx => ⟨c, ⟨x, rfl, rx⟩, fun r H2 s2 z => z⟩) fun H3 s3 => gv_var (R := fun _ r => r = .int (i : Nat)) rfl rfl
        · rw [e] at pm
          have s02 := s1.trans s2
          have hkey : ∀ c ∈ bs, c.2 < 2 := fun c hc => by
            have := pm.mem_iff.mp hc
            simp only [List.mem_cons, List.not_mem_nil, or_false] at this
            rcases this with rfl | rfl <;> simp
          refine r_ret (gv_use (gv_tupOf (K := K) (fun as => as = bs.map fun c => [a, b].getD c.2 a) (tm_tr (nm := nm)) (gv_imp (gv_lcP (fun c => [a, b].getD c.2 a) (fun as => as = bs) (tm_nm (nm := nm)) tm_in (tm_tr (nm := nm)) (gv_var (R := fun H r => ∃ as, as = bs ∧ SqLV K (PrV (NmV nm) NtV) H r as) rfl ⟨_, rfl, hb2.l.sq⟩) (fun _ e => by rw [e, pm.length_eq]; simp) (fun _ _ => rfl) ?_) fun r H3 s3 ⟨as, e, z⟩ => ⟨_, rfl, by rw [e] at z; exact z.l⟩)) fun r H3 s3 ⟨_, e, z⟩ => q _ _ (s02.trans s3) ⟨mk a b, rfl, ?_⟩)
          · rintro _ x y c H3 rfl hc s3 rx ry Q' q'
            have h2 := hkey c hc
            obtain ⟨y1, hy1, ry1⟩ := r.get' (i := c.2) (b := [a, b].getD c.2 a) (by
              rw [List.getD_eq_getElem?_getD]
              have : c.2 < [a, b].length := h2
              rw [List.getElem?_eq_getElem this]; rfl)
            exact r_op (r_var rfl (r_var rfl ⟨p, _, c.2, y1, rfl, ry, SqL.of ((s02.trans s3) _ _ hp), atI_nat hy1, q' _ _ (Same.refl _) (tm_tr.same (s02.trans s3) ry1)⟩))
          · subst e
            have ht : (bs.map fun c => [a, b].getD c.2 a) = (if b.fst < a.fst then [b, a] else [a, b]) := by
              rcases perm2 pm with e | e
              · rw [e] at sr
                have h1 := (List.pairwise_cons.mp sr).1 _ List.mem_cons_self
                rw [lt_fi N hb ha (Ne.symm hne)] at h1
                rw [e, if_neg (of_decide_eq_false h1)]; rfl
              · rw [e] at sr
                have h1 := (List.pairwise_cons.mp sr).1 _ List.mem_cons_self
                rw [lt_fi N ha hb hne] at h1
                have := of_decide_eq_false h1
                simp only at this
                rw [e, if_pos (by omega)]; rfl
            rw [ht] at z
            unfold mk
            obtain ⟨p3, ys, e3, h3, r3⟩ := z
            subst e3
            by_cases hlt : b.fst < a.fst
            · rw [if_pos hlt] at r3 ⊢
              cases r3 with
              | cons r1 r3 => cases r3 with
                | cons r2 r3 => cases r3; exact .fk h3 r1 r2
            · rw [if_neg hlt] at r3 ⊢
              cases r3 with
              | cons r1 r3 => cases r3 with
                | cons r2 r3 => cases r3; exact .fk h3 r1 r2
/-! ### stacks -/
theorem P2.snoc_inv {γ δ : Type} {R : γ → δ → Prop} : ∀ {ys : List δ} {xs : List γ} {y : δ}, P2 R xs (ys ++ [y]) → ∃ xs0 x, xs = xs0 ++ [x] ∧ P2 R xs0 ys ∧ R x y
  | [], _, y, h => by
    cases h with
    | cons r h => cases h; exact ⟨[], _, rfl, .nil, r⟩
  | z :: ys, _, y, h => by
    cases h with
    | cons r h =>
      obtain ⟨xs0, x, rfl, h1, h2⟩ := P2.snoc_inv h
      exact ⟨_ :: xs0, x, rfl, .cons r h1, h2⟩
theorem r_pop {σ : L2.St} {H : Hp} {Q : VK} {i : Nat} {l : Addr} {xs : List V} {y : V} (hx : σ[i]? = some (some (.ref l))) (hl : H l = some (.lst (xs ++ [y]))) (q : Q y (upd H l (.lst xs))) : tBM0 K "list" rPop (tVar i) σ H Q :=
  ⟨.ref l, hx, .inl ⟨rfl, _, SqL.of hl⟩, l, xs ++ [y], y, rfl, rfl, hl, by simp, by rw [List.dropLast_concat]; exact q⟩
theorem r_extend {σ : L2.St} {H : Hp} {D : Ends} {i j : Nat} {l p : Addr} {xs zs : List V} (hx : σ[i]? = some (some (.ref l))) (hy : σ[j]? = some (some (.ref p))) (hl : H l = some (.lst xs)) (hp : H p = some (.tup zs)) (hs : xs.length + zs.length ≤ sizeLine)
    (k : ∀ b, H b = none → D.nx σ (upd (upd H b (.lst zs)) l (.lst (xs ++ zs)))) : tDrop (tBM K "list" rExtend (tVar i) (tCons (tCB (rListQ K) (tCons (tVar j) tNil)) tNil)) D σ H :=
  ⟨.ref l, hx, .inl ⟨rfl, _, SqL.of hl⟩, r_b1 (r_var hy ⟨p, zs, rfl, .inr (SqT.of hp), fun b hb => ⟨l, b, xs, zs, rfl, rfl, by rw [upd_ne (fun z => by rw [z, hb] at hl; cases hl)]; exact hl, upd_same, hs, k b hb⟩⟩)⟩
theorem gv_neTs (N : Nm nm n) {ta : TE} {σ : L2.St} {H : Hp} {ts : List Tr} (ha : Gv ta σ H fun H1 v => LstV (TrV nm) H1 v ts) (hw : ∀ t ∈ ts, Wf n t) : Gv (tOp (rNeD K) ta (tLst tNil)) σ H fun _ r => r = .bl (decide (ts ≠ [])) :=
  gv_imp (gv_neD (da := .list (ts.map (dT nm))) (db := .list []) ha (fun H4 s4 => gv_emptyL (α := Tr) (RA := TrV nm)) (fun x y H4 H5 s4 rx s5 ⟨p, ys, ey, hy, ry⟩ => ⟨dp_trs (rx.same tm_tr s5), by rw [ey]; cases ry; exact .lst (SqL.of hy) .nil⟩) (sh_trs N hw) sh_nilL) fun r H3 _ e => by
    rw [e]
    cases ts <;> simp [PyData.eqv, PyData.eqvAll]
theorem nil_or_snoc {α : Type} (l : List α) : l = [] ∨ ∃ l0 x, l = l0 ++ [x] := by
  rcases List.eq_nil_or_concat l with h | ⟨l0, x, h⟩
  · exact .inl h
  · exact .inr ⟨l0, x, by rw [h, List.concat_eq_append]⟩
def szs (ts : List Tr) : Nat := (ts.map Tr.sz).sum
theorem szs_snoc (ts : List Tr) (t : Tr) : szs (ts ++ [t]) = szs ts + t.sz := by simp [szs]
/-! ### _law_below -/
theorem sc__law_below : FnScope ["_law_tree_here", "_law_found", "_law_left", "_law_one"] ["_law_tree_here"] (defScope s_lawbelow) := ⟨rfl, rfl, rfl, by decide +kernel, rfl, by decide +kernel, by decide +kernel⟩
theorem ok__law_below (F : FnD K "_law_below" s_lawbelow f fd) (B : Bi mg) (N : Nm nm n) : FnOk P w K mg base CX0 1 f fd ["_law_tree_here"] (spNamesIn nm n) := by
  refine F.ok sc__law_below (fun vs H Q E h => ?_) (fun cdv A outer s H vs Q E hr h => ?_)
  · obtain ⟨t, ⟨v, rfl, _⟩, _⟩ := h; rfl
  · obtain ⟨t, ⟨v, rfl, hv, hw⟩, q⟩ := h
    have hu := hr.units
    refine ⟨_, PSs.nox (pss_cons (ps_set (i := 1) sc__law_below.nd rfl (by first | exact Or.inl rfl | exact Or.inr rfl) (pe_lst pa_nil))
      (pss_cons (ps_set (i := 2) sc__law_below.nd rfl (by first | exact Or.inl rfl | exact Or.inr rfl) (pe_lst (pa_cons (pv 0) pa_nil)))
      (pss_cons (ps_while PassesOwn.never (pt_cmpR (neD K hu) (pv 2) (pe_lst pa_nil) (by rfl)) (pss_cons (ps_set (i := 3) sc__law_below.nd rfl (by first | exact Or.inl rfl | exact Or.inr rfl) (pe_bm0 PySem.F.plainAttrs_list PySem.F.slot_list_pop PySem.F.type_list_pop mt_pop (pv 2)))
      (pss_one (ps_if (pt_val (pe_callB (isiQ K) (by rfl) B.isinstance boot_isinstance (pa_cons (pv 3) (pa_cons (pe_bltn (v := .ty "str") (by rfl) B.str boot_str rfl) pa_nil)))) (pss_one (ps_expr (pe_bm PySem.F.plainAttrs_list PySem.F.slot_list_append PySem.F.type_list_append mt_append (pv 1) (pa_cons (pv 3) pa_nil)))) (pss_one (ps_expr (pe_bm PySem.F.plainAttrs_list PySem.F.slot_list_extend PySem.F.type_list_extend mt_extend (pv 2) (pa_cons (pe_callTy (listQ K) (by rfl) B.list boot_list (pa_cons (pv 3) pa_nil)) pa_nil))))))))
      (pss_one (ps_ret (pe_callTy (tupQ K) (by rfl) B.tuple boot_tuple (pa_cons (pe_callB (sortQ K hu) (by rfl) B.sorted boot_sorted (pa_cons (pv 1) pa_nil)) pa_nil))))))), ?_⟩
    have hsl : (100000 : Nat) ≤ sizeLine := by decide
    have hln := hw.len
    have hfw := N.few
    have hsz := hw.sz hfw
    refine r_seq (r_asg (r_nilL fun pF hF => ?_))
    refine r_seq (r_asg (r_lst1 (r_var rfl ⟨one_line, fun pL hL => ?_⟩)))
    have s0 : Same H (upd (upd H pF (.lst [])) pL (.lst [v])) := (same_new hF _).trans (same_new hL _)
    have hne : pF ≠ pL := fun z => by rw [z, upd_same] at hL; cases hL
    have hL0 : H pL = none := by rw [upd_ne (Ne.symm hne)] at hL; exact hL
    refine r_seq ⟨fun m σ H' => Same H H' ∧ ∃ a xs ls ns ts, m = szs ts ∧ σ = [some v, some (.ref pF), some (.ref pL), a] ∧ H' pF = some (.lst xs) ∧ P2 (NmV nm H') xs ns ∧ H' pL = some (.lst ls) ∧ P2 (TrV nm H') ls ts ∧ (ns ++ (ts.map Tr.nm).flatten).Perm t.nm ∧ (∀ s ∈ ts, Wf n s) ∧ szs ts ≤ 9, ⟨_, s0, none, [], [v], [], [t], rfl, rfl, by rw [upd_ne hne]; exact upd_same, .nil, upd_same, .cons (tm_tr.same s0 hv) .nil, by simp, fun s hs => by rw [List.mem_singleton.mp hs]; exact hw, by simp [szs]; exact hsz⟩, ?_⟩
    rintro m σ H1 ⟨s1, a, xs, ls, ns, ts, rfl, rfl, hpF, rF, hpL, rL, pm, hwf, h9⟩
    refine gt_use (b := decide (ts ≠ [])) (gt_test (gv_neTs N (gv_var (R := fun H r => LstV (TrV nm) H r ts) rfl ⟨pL, ls, rfl, hpL, rL⟩) hwf)) fun H2 s2 => ?_
    have hpF2 := s2 _ _ hpF
    have hpL2 := s2 _ _ hpL
    have hnl := pm.length_eq
    rw [List.length_append] at hnl
    have hxl := rF.len
    rcases nil_or_snoc ts with rfl | ⟨ts0, u, rfl⟩
    · rw [decide_eq_false (fun z => z rfl)]
      simp only [List.map_nil, List.flatten_nil, List.append_nil] at pm
      refine iteF (r_ret (gv_use (gv_tupOf (fun bs => bs = nmS t) (tm_nm (nm := nm)) (gv_imp (gv_sorted (d := dN nm) (fun as => as = ns) (tm_nm (nm := nm)) (gv_var (R := fun H r => ∃ as, as = ns ∧ SqV K (NmV nm) H r as) rfl ⟨_, rfl, (show LstV (NmV nm) H2 (.ref pF) ns from ⟨pF, xs, rfl, hpF2, rF⟩).sq.q⟩) (fun as v a H1 _ _ r => dp_nm r) (fun as _ => alike_dN as) (fun as _ => sortable_dN as) (fun as _ a _ => by simp [PyData.depth])) fun r H3 s3 z => ?_)) fun r H3 s3 ⟨as, e, ht⟩ => q r H3 ((s1.trans s2).trans s3) (by rw [e] at ht; exact lot_tup.mpr ht)))
      obtain ⟨as, bs, rfl, pm2, sr, hl⟩ := z
      have pm3 := pm2.trans pm
      exact ⟨bs, nmS_eq (srt_names N (fun x hx => hw.lt x (pm3.mem_iff.mp hx)) (pm3.nodup_iff.mpr (nm_nodup hw.ok)) sr) fun x => pm3.mem_iff, hl.l⟩
    · rw [decide_eq_true (by simp)]
      obtain ⟨ls0, x, rfl, rL0, rx⟩ := P2.snoc_inv rL
      rw [szs_snoc] at h9 ⊢
      rw [List.map_append, List.flatten_append] at pm
      simp only [List.map_cons, List.map_nil, List.flatten_cons, List.flatten_nil, List.append_nil] at pm
      refine iteT ⟨fun σ' H' => Same H H' ∧ ∃ a xs ls ns ts, szs ts < szs ts0 + u.sz ∧ σ' = [some v, some (.ref pF), some (.ref pL), a] ∧ H' pF = some (.lst xs) ∧ P2 (NmV nm H') xs ns ∧ H' pL = some (.lst ls) ∧ P2 (TrV nm H') ls ts ∧ (ns ++ (ts.map Tr.nm).flatten).Perm t.nm ∧ (∀ s ∈ ts, Wf n s) ∧ szs ts ≤ 9, fun σ' H' ⟨z1, a, xs, ls, ns, ts, h1, h2⟩ => ⟨_, h1, z1, a, xs, ls, ns, ts, rfl, h2⟩, ?_⟩
      refine r_seq (r_asg (r_pop rfl hpL2 ?_))
      have s12 := s1.trans s2
      have s3 : Same H (upd H2 pL (.lst ls0)) := same_mut s12 hL0
      have t3 : Tups H2 (upd H2 pL (.lst ls0)) := tups_lst hpL2
      have rx3 := tm_tr _ _ _ _ t3 (tm_tr.same s2 rx)
      have rL3 : P2 (TrV nm (upd H2 pL (.lst ls0))) ls0 ts0 := rL0.imp fun _ _ k => tm_tr _ _ _ _ t3 (tm_tr.same s2 k)
      have hpF3 : upd H2 pL (.lst ls0) pF = some (.lst xs) := by rw [upd_ne hne]; exact hpF2
      have hpL3 : upd H2 pL (.lst ls0) pL = some (.lst ls0) := upd_same
      generalize upd H2 pL (.lst ls0) = H3 at s3 t3 rx3 rL3 hpF3 hpL3 ⊢
      refine r_if (gt_use (gt_gv (gv_isStr (gv_var rfl rx3))) fun H4 s4 => ?_)
      have hwf0 : ∀ s ∈ ts0, Wf n s := fun s hs => hwf s (List.mem_append_left _ hs)
      have hwu : Wf n u := hwf u (by simp)
      cases rx3 with
      | lf i =>
        refine iteT (r_append (p := pF) rfl (s4 _ _ hpF3) (by omega) (gv_var (R := fun H r => NmV nm H r i) rfl rfl) fun y H5 s5 ry => ?_)
        have hpF5 := (s4.trans s5) _ _ hpF3
        refine ⟨same_mut ((s3.trans s4).trans s5) hF, _, xs ++ [y], ls0, ns ++ [i], ts0, by simp [Tr.sz], rfl, upd_same, (rF.imp fun _ _ k => k).app (.cons ry .nil), by rw [upd_ne (Ne.symm hne)]; exact (s4.trans s5) _ _ hpL3, rL3.imp fun _ _ k => tm_tr _ _ _ _ (tups_lst hpF5) (tm_tr.same (s4.trans s5) k), ?_, hwf0, by omega⟩
        refine List.Perm.trans ?_ pm
        rw [List.append_assoc]
        refine List.Perm.append_left _ ?_
        exact List.perm_append_comm
      | @fk p y z a b e h1 h2 =>
        have hl0 := rL3.len
        have hll : ls0.length ≤ 9 := by
          have : ∀ l : List Tr, l.length ≤ szs l := fun l => by
            induction l with
            | nil => simp [szs]
            | cons t l ih => have := sz_pos t; simp only [szs, List.map_cons, List.sum_cons, List.length_cons] at ih ⊢; omega
          have := this ts0
          omega
        refine iteF (r_extend rfl rfl (s4 _ _ hpL3) (s4 _ _ e) (by simp; omega) fun bb hb => ?_)
        have hb4 : H4 bb = none := hb
        have tb : Tups H3 (upd (upd H4 bb (.lst [y, z])) pL (.lst (ls0 ++ [y, z]))) := ((Same.tups s4).trans (Same.tups (same_new hb _))).trans (tups_lst ((same_new hb _) _ _ (s4 _ _ hpL3)))
        refine ⟨same_mut ((s3.trans s4).trans (same_new hb _)) hL0, _, xs, ls0 ++ [y, z], ns, ts0 ++ [a, b], by simp [szs, Tr.sz] <;> omega, rfl, by rw [upd_ne hne]; exact (same_new hb _) _ _ (s4 _ _ hpF3), rF.imp fun _ _ k => k, upd_same, (rL3.imp fun _ _ k => tm_tr _ _ _ _ tb k).app (.cons (tm_tr _ _ _ _ tb h1) (.cons (tm_tr _ _ _ _ tb h2) .nil)), by simpa [Tr.nm] using pm, fun s hs => ?_, by (simp [szs, Tr.sz] at h9 ⊢); omega⟩
        rcases List.mem_append.mp hs with h | h
        · exact hwf0 s h
        · simp only [List.mem_cons, List.not_mem_nil, or_false] at h
          rcases h with rfl | rfl
          · exact hwu.l
          · exact hwu.r
/-! ### _law_lots -/
theorem sc__law_lots : FnScope ["_law_tree_here", "_law_found", "_law_left", "_law_one"] ["_law_tree_here"] (defScope s_lawlots) := ⟨rfl, rfl, rfl, by decide +kernel, rfl, by decide +kernel, by decide +kernel⟩
theorem ok__law_lots (F : FnD K "_law_lots" s_lawlots f fd) (B : Bi mg) (N : Nm nm n) (c__law_below : Cal P w K mg base 1 "_law_below" ["_law_tree_here"] (spNamesIn nm n)) : FnOk P w K mg base CX0 2 f fd ["_law_tree_here"] (spLotsOf nm n) := by
  refine F.ok sc__law_lots (fun vs H Q E h => ?_) (fun cdv A outer s H vs Q E hr h => ?_)
  · obtain ⟨t, ⟨v, rfl, _⟩, _⟩ := h; rfl
  · obtain ⟨t, ⟨v, rfl, hv, hw⟩, q⟩ := h
    have hu := hr.units
    refine ⟨_, PSs.nox (pss_cons (ps_set (i := 1) sc__law_lots.nd rfl (by first | exact Or.inl rfl | exact Or.inr rfl) (pe_lst pa_nil))
      (pss_cons (ps_set (i := 2) sc__law_lots.nd rfl (by first | exact Or.inl rfl | exact Or.inr rfl) (pe_lst (pa_cons (pv 0) pa_nil)))
      (pss_cons (ps_while PassesOwn.never (pt_cmpR (neD K hu) (pv 2) (pe_lst pa_nil) (by rfl)) (pss_cons (ps_set (i := 3) sc__law_lots.nd rfl (by first | exact Or.inl rfl | exact Or.inr rfl) (pe_bm0 PySem.F.plainAttrs_list PySem.F.slot_list_pop PySem.F.type_list_pop mt_pop (pv 2)))
      (pss_one (ps_if (pt_not (pt_val (pe_callB (isiQ K) (by rfl) B.isinstance boot_isinstance (pa_cons (pv 3) (pa_cons (pe_bltn (v := .ty "str") (by rfl) B.str boot_str rfl) pa_nil))))) (pss_cons (ps_expr (pe_bm PySem.F.plainAttrs_list PySem.F.slot_list_append PySem.F.type_list_append mt_append (pv 1) (pa_cons (pe_cal c__law_below (hr.mono (by first | decide | omega)) (pa_cons (pv 3) pa_nil)) pa_nil)))
      (pss_one (ps_expr (pe_bm PySem.F.plainAttrs_list PySem.F.slot_list_extend PySem.F.type_list_extend mt_extend (pv 2) (pa_cons (pe_callTy (listQ K) (by rfl) B.list boot_list (pa_cons (pv 3) pa_nil)) pa_nil))))) pss_nil))))
      (pss_one (ps_ret (pe_callB (sortQ K hu) (by rfl) B.sorted boot_sorted (pa_cons (pv 1) pa_nil))))))), ?_⟩
    have hsl : (100000 : Nat) ≤ sizeLine := by decide
    have hln := hw.len
    have hfw := N.few
    have hsz := hw.sz hfw
    have hfk := len_forks t
    refine r_seq (r_asg (r_nilL fun pF hF => ?_))
    refine r_seq (r_asg (r_lst1 (r_var rfl ⟨one_line, fun pL hL => ?_⟩)))
    have s0 : Same H (upd (upd H pF (.lst [])) pL (.lst [v])) := (same_new hF _).trans (same_new hL _)
    have hne : pF ≠ pL := fun z => by rw [z, upd_same] at hL; cases hL
    have hL0 : H pL = none := by rw [upd_ne (Ne.symm hne)] at hL; exact hL
    refine r_seq ⟨fun m σ H' => Same H H' ∧ ∃ a xs ls ns ts, m = szs ts ∧ σ = [some v, some (.ref pF), some (.ref pL), a] ∧ H' pF = some (.lst xs) ∧ P2 (LotV nm H') xs ns ∧ H' pL = some (.lst ls) ∧ P2 (TrV nm H') ls ts ∧ (ns ++ (ts.map fun s => (forks s).map nmS).flatten).Perm ((forks t).map nmS) ∧ (∀ s ∈ ts, Wf n s) ∧ szs ts ≤ 9, ⟨_, s0, none, [], [v], [], [t], rfl, rfl, by rw [upd_ne hne]; exact upd_same, .nil, upd_same, .cons (tm_tr.same s0 hv) .nil, by simp, fun s hs => by rw [List.mem_singleton.mp hs]; exact hw, by simp [szs]; exact hsz⟩, ?_⟩
    rintro m σ H1 ⟨s1, a, xs, ls, ns, ts, rfl, rfl, hpF, rF, hpL, rL, pm, hwf, h9⟩
    refine gt_use (b := decide (ts ≠ [])) (gt_test (gv_neTs N (gv_var (R := fun H r => LstV (TrV nm) H r ts) rfl ⟨pL, ls, rfl, hpL, rL⟩) hwf)) fun H2 s2 => ?_
    have hpF2 := s2 _ _ hpF
    have hpL2 := s2 _ _ hpL
    have hnl := pm.length_eq
    rw [List.length_append, List.length_map] at hnl
    have hxl := rF.len
    rcases nil_or_snoc ts with rfl | ⟨ts0, u, rfl⟩
    · rw [decide_eq_false (fun z => z rfl)]
      simp only [List.map_nil, List.flatten_nil, List.append_nil] at pm
      refine iteF (r_ret (gv_use (gv_sorted (d := dL nm) (fun as => as = ns) (tm_lot (nm := nm)) (gv_var (R := fun H r => ∃ as, as = ns ∧ SqV K (LotV nm) H r as) rfl ⟨_, rfl, (show LstV (LotV nm) H2 (.ref pF) ns from ⟨pF, xs, rfl, hpF2, rF.imp fun _ _ k => tm_lot.same s2 k⟩).sq.q⟩) (fun as v a H1 _ _ r => dp_lot r) (fun as _ => alike_dL as) (fun as e => sortable_dL fun l hl => ?_) (fun as _ a _ => Nat.le_trans (depth_dL a) (by omega))) fun r H3 s3 ⟨as, bs, e, pm2, _, hl⟩ => q r H3 ((s1.trans s2).trans s3) ⟨bs, by rw [← e] at pm; exact pm2.trans pm, hl.back (s1.trans s2)⟩))
      rw [e] at hl
      obtain ⟨S, _, rfl⟩ := List.mem_map.mp (pm.mem_iff.mp hl)
      exact nmS_ne S
    · rw [decide_eq_true (by simp)]
      obtain ⟨ls0, x, rfl, rL0, rx⟩ := P2.snoc_inv rL
      rw [szs_snoc] at h9 ⊢
      rw [List.map_append, List.flatten_append] at pm
      simp only [List.map_cons, List.map_nil, List.flatten_cons, List.flatten_nil, List.append_nil] at pm
      refine iteT ⟨fun σ' H' => Same H H' ∧ ∃ a xs ls ns ts, szs ts < szs ts0 + u.sz ∧ σ' = [some v, some (.ref pF), some (.ref pL), a] ∧ H' pF = some (.lst xs) ∧ P2 (LotV nm H') xs ns ∧ H' pL = some (.lst ls) ∧ P2 (TrV nm H') ls ts ∧ (ns ++ (ts.map fun s => (forks s).map nmS).flatten).Perm ((forks t).map nmS) ∧ (∀ s ∈ ts, Wf n s) ∧ szs ts ≤ 9, fun σ' H' ⟨z1, a, xs, ls, ns, ts, h1, h2⟩ => ⟨_, h1, z1, a, xs, ls, ns, ts, rfl, h2⟩, ?_⟩
      refine r_seq (r_asg (r_pop rfl hpL2 ?_))
      have s12 := s1.trans s2
      have s3 : Same H (upd H2 pL (.lst ls0)) := same_mut s12 hL0
      have t3 : Tups H2 (upd H2 pL (.lst ls0)) := tups_lst hpL2
      have rx3 := tm_tr _ _ _ _ t3 (tm_tr.same s2 rx)
      have rL3 : P2 (TrV nm (upd H2 pL (.lst ls0))) ls0 ts0 := rL0.imp fun _ _ k => tm_tr _ _ _ _ t3 (tm_tr.same s2 k)
      have rF3 : P2 (LotV nm (upd H2 pL (.lst ls0))) xs ns := rF.imp fun _ _ k => tm_lot _ _ _ _ t3 (tm_lot.same s2 k)
      have hpF3 : upd H2 pL (.lst ls0) pF = some (.lst xs) := by rw [upd_ne hne]; exact hpF2
      have hpL3 : upd H2 pL (.lst ls0) pL = some (.lst ls0) := upd_same
      generalize upd H2 pL (.lst ls0) = H3 at s3 t3 rx3 rL3 rF3 hpF3 hpL3 ⊢
      refine r_if (gt_use (gt_not (gt_gv (gv_isStr (gv_var rfl rx3)))) fun H4 s4 => ?_)
      have hwf0 : ∀ s ∈ ts0, Wf n s := fun s hs => hwf s (List.mem_append_left _ hs)
      have hwu : Wf n u := hwf u (by simp)
      cases rx3 with
      | lf i =>
        refine iteF (r_next ⟨s3.trans s4, _, xs, ls0, ns, ts0, by simp [Tr.sz], rfl, s4 _ _ hpF3, rF3.imp fun _ _ k => tm_lot.same s4 k, s4 _ _ hpL3, rL3.imp fun _ _ k => tm_tr.same s4 k, by simpa [forks] using pm, hwf0, by omega⟩)
      | @fk p y z a b e h1 h2 =>
        have hu3 : TrV nm H3 (.ref p) (.fk a b) := .fk e h1 h2
        have hl0 := rL3.len
        have hll : ls0.length ≤ 9 := by
          have : ∀ l : List Tr, l.length ≤ szs l := fun l => by
            induction l with
            | nil => simp [szs]
            | cons t l ih => have := sz_pos t; simp only [szs, List.map_cons, List.sum_cons, List.length_cons] at ih ⊢; omega
          have := this ts0
          omega
        refine iteT (r_seq (r_append (p := pF) (Ry := fun H r => LotV nm H r (nmS (.fk a b))) rfl (s4 _ _ hpF3) (by omega) (gv_call1 (gv_var rfl (tm_tr.same s4 hu3)) fun x H1 s1 rx => ⟨_, ⟨x, rfl, rx, hwu⟩, fun r H2 s2 z => z⟩) fun y5 H5 s5 ry => ?_))
        have s45 := s4.trans s5
        have hpF5 := s45 _ _ hpF3
        have s6 : Same H (upd H5 pF (.lst (xs ++ [y5]))) := same_mut (s3.trans s45) hF
        have t6 : Tups H3 (upd H5 pF (.lst (xs ++ [y5]))) := (Same.tups s45).trans (tups_lst hpF5)
        have ry6 := tm_lot _ _ _ _ (tups_lst (u := .lst (xs ++ [y5])) hpF5) ry
        have hpL6 : upd H5 pF (.lst (xs ++ [y5])) pL = some (.lst ls0) := by rw [upd_ne (Ne.symm hne)]; exact s45 _ _ hpL3
        have hpF6 : upd H5 pF (.lst (xs ++ [y5])) pF = some (.lst (xs ++ [y5])) := upd_same
        have e6 := t6 _ _ e trivial
        generalize upd H5 pF (.lst (xs ++ [y5])) = H6 at s6 t6 ry6 hpL6 hpF6 e6 ⊢
        refine r_extend rfl rfl hpL6 e6 (by simp; omega) fun bb hb => ?_
        have tb6 : Tups H6 (upd (upd H6 bb (.lst [y, z])) pL (.lst (ls0 ++ [y, z]))) := (Same.tups (same_new hb _)).trans (tups_lst ((same_new hb _) _ _ hpL6))
        have tb := t6.trans tb6
        refine ⟨same_mut (s6.trans (same_new hb _)) hL0, _, xs ++ [y5], ls0 ++ [y, z], ns ++ [nmS (.fk a b)], ts0 ++ [a, b], by simp [szs, Tr.sz] <;> omega, rfl, by rw [upd_ne hne]; exact (same_new hb _) _ _ hpF6, (rF3.imp fun _ _ k => tm_lot _ _ _ _ tb k).app (.cons (tm_lot _ _ _ _ tb6 ry6) .nil), upd_same, (rL3.imp fun _ _ k => tm_tr _ _ _ _ tb k).app (.cons (tm_tr _ _ _ _ tb h1) (.cons (tm_tr _ _ _ _ tb h2) .nil)), ?_, fun s hs => ?_, by (simp [szs, Tr.sz] at h9 ⊢); omega⟩
        · refine List.Perm.trans ?_ pm
          simp only [forks, List.map_cons, List.map_append, List.map_nil, List.flatten_append, List.flatten_cons, List.flatten_nil, List.append_nil, List.append_assoc, List.singleton_append]
          refine List.Perm.append_left _ ?_
          exact List.perm_middle.symm
        · rcases List.mem_append.mp hs with h | h
          · exact hwf0 s h
          · simp only [List.mem_cons, List.not_mem_nil, or_false] at h
            rcases h with rfl | rfl
            · exact hwu.l
            · exact hwu.r
end
end Jw
end

section
set_option Elab.async false
set_option linter.all false
set_option maxRecDepth 100000
set_option maxHeartbeats 4000000
/-! The law's own defs: to, nodes, head, way. -/
namespace Jw
open PySem PySem.Spec PyProof.Rows L2 Jt JH
section
variable {P : Program} {w : World} {K : PySem.W.Frag} {mg : Str → Option Value} {base : Heap} {f : Addr} {fd : FuncData} {nm : Nat → Str} {n : Nat}
/-! ### _law_to -/
theorem SqV.same {α : Type} {R : Hp → V → α → Prop} (m : TM R) {H H' : Hp} {v : V} {as : List α} (s : Same H H') (h : SqV K R H v as) : SqV K R H' v as :=
  let ⟨p, xs, e, h1, r⟩ := h
  ⟨p, xs, e, h1.elim (fun z => .inl (s.seq z)) (fun z => .inr (same_t s z)), r.imp fun _ _ k => m.same s k⟩
theorem nms_of {H : Hp} {xs : List V} {l : List Nat} (h : P2 (NmV nm H) xs l) : xs = l.map (sv nm) := by
  induction h with
  | nil => rfl
  | cons r _ ih => rw [show _ = _ from r, ih]; rfl
def spLawTo (K : PySem.W.Frag) (nm : Nat → Str) (n h : Nat) : Sp := Pur (ι := Tr × List Nat) (fun i vs H => ∃ v u, vs = [v, u] ∧ TrV nm H v i.1 ∧ SqV K (NmV nm) H u i.2 ∧ Wf n i.1 ∧ (∀ x ∈ i.2, x < n) ∧ i.1.sz ≤ h) (fun i _ H r => OTr nm H r (res (el i.2) i.1))
theorem sc__law_to : FnScope ["_law_tree_here", "_law_names_here", "_law_parts", "_law_part"] ["_law_tree_here", "_law_names_here"] (defScope s_lawto) := ⟨rfl, rfl, rfl, by decide +kernel, rfl, by decide +kernel, by decide +kernel⟩
theorem st__law_to (F : FnD K "_law_to" s_lawto f fd) (B : Bi mg) (N : Nm nm n) (c__law_fork : Cal P w K mg base 2 "_law_fork" ["_law_parts"] (spFork nm n)) {k h : Nat} (hk : 2 ≤ k) (ih : Cal P w K mg base k "_law_to" ["_law_tree_here", "_law_names_here"] (spLawTo K nm n h)) : FnOk P w K mg base CX0 (k + 1) f fd ["_law_tree_here", "_law_names_here"] (spLawTo K nm n (h + 1)) := by
  refine F.ok sc__law_to (fun vs H Q E h => ?_) (fun cdv A outer s H vs Q E hr h => ?_)
  · obtain ⟨t, ⟨v, u, rfl, _⟩, _⟩ := h; rfl
  · obtain ⟨⟨t, l⟩, ⟨v, u, rfl, hv, hl, hw, hln, hs⟩, q⟩ := h
    have hu := hr.units
    refine ⟨_, PSs.nox (pss_cons (ps_if (pt_val (pe_callB (isiQ K) (by rfl) B.isinstance boot_isinstance (pa_cons (pv 0) (pa_cons (pe_bltn (v := .ty "str") (by rfl) B.str boot_str rfl) pa_nil)))) (pss_one (ps_ret (pe_ifExp (pt_cmpR (inS K) (pv 0) (pv 1) (by rfl)) (pv 0) (pe_non)))) pss_nil)
      (pss_cons (ps_setLc (own := [("_law_part", 3)]) (i := 2) rfl sc__law_to.nd rfl rfl (sw_true rfl rfl rfl (by decide +kernel)) (piT K (pv 0)) (blkOk_by (N := ["_law_tree_here", "_law_names_here", "_law_parts", "_law_part"]) (sc := defScope s_lawto) (by decide +kernel)) (fun _ _ _ _ _ => (pg_name (i := 3) sc__law_to.nd rfl (by first | exact Or.inl rfl | exact Or.inr rfl))) (fun _ _ _ _ _ => pts_nil) (fun _ _ _ _ _ => (pe_cal ih (hr.mono (by first | decide | omega)) (pa_cons (pv 3) (pa_cons (pv 1) pa_nil)))))
      (pss_cons (ps_setLc (own := [("_law_part", 3)]) (i := 2) rfl sc__law_to.nd rfl rfl (sw_true rfl rfl rfl (by decide +kernel)) (piL K (pv 2)) (blkOk_by (N := ["_law_tree_here", "_law_names_here", "_law_parts", "_law_part"]) (sc := defScope s_lawto) (by decide +kernel)) (fun _ _ _ _ _ => (pg_name (i := 3) sc__law_to.nd rfl (by first | exact Or.inl rfl | exact Or.inr rfl))) (fun _ _ _ _ _ => pts_one (pt_cmpR op_notN (pv 3) (pe_non) (by rfl))) (fun _ _ _ _ _ => (pv 3)))
      (pss_one (ps_ret (pe_ifExp (pt_cmpR (neD K hu) (pv 2) (pe_lst pa_nil) (by rfl)) (pe_cal c__law_fork (hr.mono (by first | decide | omega)) (pa_cons (pv 2) pa_nil)) (pe_non))))))), ?_⟩
    refine r_seq (r_if (gt_use (gt_gv (gv_isStr (gv_var rfl hv))) fun H1 s1 => ?_))
    simp only at hv hl hw hln hs
    cases hv with
    | lf i =>
      obtain ⟨a, xs, rfl, ha, rl⟩ := hl.same tm_nm s1
      have exs := nms_of rl
      subst exs
      have hi : i < n := hw.lt i (by simp [Tr.nm])
      refine iteT (r_ret (r_ifE (gt_use (b := decide (i ∈ l)) (gt_test fun Q' q' => r_op (r_var rfl (r_var rfl ⟨a, _, rfl, ha, rfl, flat_svs, ?_⟩))) fun H2 s2 => ?_)))
      · rw [if_neg Bool.false_ne_true, inV_sv N hi hln]
        exact q' _ _ (Same.refl _) rfl
      · refine ite2 (fun c => r_var rfl (q _ _ (s1.trans s2) ?_)) fun c => r_c (q _ _ (s1.trans s2) ?_)
        · have : res (el l) (.lf i) = some (.lf i) := by simp only [res, el]; rw [if_pos c]
          show OTr nm H2 (sv nm i) (res (el l) (.lf i))
          rw [this]; exact .lf i
        · have : res (el l) (.lf i) = none := by simp only [res, el]; rw [if_neg c]
          show OTr nm H2 .non (res (el l) (.lf i))
          rw [this]; rfl
    | @fk p y z a b e h1 h2 =>
      have hv : TrV nm H (.ref p) (.fk a b) := .fk e h1 h2
      simp only [Tr.sz] at hs
      refine iteF (r_next (r_seq (r_asg (gv_use (gv_lcT0 (fun t => res (el l) t) (fun as => as = [a, b]) tm_tr (tm_otr (nm := nm)) (gv_var rfl ⟨_, rfl, (tm_tr.same s1 hv).tup.sq⟩) (fun _ e => by rw [e]; simp) (fun _ => rfl) ?_) fun x H2 s2 hx => ?_))))
      · rintro _ x c H2 rfl hc s2 rx
        refine gv_call2 (gv_var rfl rx) (fun H3 s3 => gv_var (R := fun H r => SqV K (NmV nm) H r l) rfl (hl.same tm_nm ((s1.trans s2).trans s3))) fun y u H3 H4 s3 ry s4 ru => ⟨(c, l), ⟨y, u, rfl, tm_tr.same s4 ry, ru, ?_, hln, ?_⟩, fun r H5 s5 z => z⟩
        · rcases List.mem_cons.mp hc with rfl | hc
          · exact hw.l
          · rw [List.mem_singleton.mp hc]; exact hw.r
        · show c.sz ≤ h
          rcases List.mem_cons.mp hc with rfl | hc
          · omega
          · rw [List.mem_singleton.mp hc]; omega
      · obtain ⟨_, rfl, hx⟩ := hx
        refine r_seq (r_asg (gv_use (gv_lcL Option.isSome id (fun as => as = [a, b].map fun t => res (el l) t) (tm_otr (nm := nm)) (tm_otr (nm := nm)) (gv_var rfl ⟨_, rfl, hx.l.sq⟩) (fun _ e => by rw [e]; simp) (fun _ => rfl) ?_ ?_) fun x2 H3 s3 hx2 => ?_))
        · rintro _ x c H4 rfl hc s4 rx
          refine gt_test fun Q' q' => r_op (r_var rfl (r_c ⟨rfl, q' _ _ (Same.refl _) ?_⟩))
          cases c with
          | none => rw [show x = V.non from rx]; rfl
          | some t => cases rx <;> rfl
        · rintro _ x c H4 rfl hc s4 rx _
          exact gv_var rfl rx
        · obtain ⟨_, rfl, hx2⟩ := hx2
          rw [List.map_id] at hx2
          have hk2 : LstV (TrV nm) H3 x2 (([a, b].map fun t => res (el l) t).filterMap id) := let ⟨p, xs, e, _, hp, r⟩ := hx2; ⟨p, xs, e, hp, otr_some r⟩
          have hwf : ∀ t ∈ ([a, b].map fun t => res (el l) t).filterMap id, Wf n t := fun t ht => by
            obtain ⟨o, ho, e⟩ := List.mem_filterMap.mp ht
            obtain ⟨c, hc, rfl⟩ := List.mem_map.mp ho
            rcases List.mem_cons.mp hc with rfl | hc
            · exact hw.l.res e
            · rw [List.mem_singleton.mp hc] at e; exact hw.r.res e
          refine r_ret (r_ifE (gt_use (gt_test (gv_neD (da := .list ((([a, b].map fun t => res (el l) t).filterMap id).map (dT nm))) (db := .list []) (gv_var (R := fun H r => LstV (TrV nm) H r (([a, b].map fun t => res (el l) t).filterMap id)) rfl hk2) (fun H4 s4 => gv_emptyL (α := Tr) (RA := TrV nm)) (fun x y H4 H5 s4 rx s5 ⟨p, ys, ey, hy, ry⟩ => ⟨dp_trs (rx.same tm_tr s5), by rw [ey]; cases ry; exact .lst (SqL.of hy) .nil⟩) (sh_trs N hwf) sh_nilL)) fun H4 s4 => ?_))
          have hd : Disj a b := ok_disj hw.ok
          have eq0 : res (el l) (.fk a b) = combL (([a, b].map fun t => res (el l) t).filterMap id) := by
            show comb (res (el l) a) (res (el l) b) = _
            cases ea : res (el l) a <;> cases eb : res (el l) b <;> simp [ea, eb, comb, combL]
          have hlen : (([a, b].map fun t => res (el l) t).filterMap id) = [] ∨ (∃ c, (([a, b].map fun t => res (el l) t).filterMap id) = [c]) ∨ ∃ c d, (([a, b].map fun t => res (el l) t).filterMap id) = [c, d] ∧ c.fst ≠ d.fst := by
            cases ea : res (el l) a with
            | none =>
              cases eb : res (el l) b with
              | none => exact .inl (by simp [ea, eb])
              | some y => exact .inr (.inl ⟨y, by simp [ea, eb]⟩)
            | some x =>
              cases eb : res (el l) b with
              | none => exact .inr (.inl ⟨x, by simp [ea, eb]⟩)
              | some y => exact .inr (.inr ⟨x, y, by simp [ea, eb], (res_disj hd ea eb).fst_ne⟩)
          generalize hL : (([a, b].map fun t => res (el l) t).filterMap id) = L at *
          rcases hlen with rfl | ⟨c, rfl⟩ | ⟨c, d, rfl, hcd⟩
          · refine iteF (r_c (q _ _ (((s1.trans s2).trans s3).trans s4) ?_))
            show OTr nm H4 .non (res (el l) (.fk a b))
            rw [eq0]; rfl
          · refine iteT (gv_use (gv_call1 (gv_var (R := fun H r => LstV (TrV nm) H r [c]) rfl (hk2.same tm_tr s4)) fun y H5 s5 ry => ⟨[c], ⟨y, rfl, ry, hwf, .inl ⟨c, rfl⟩⟩, fun r H6 s6 ⟨t, e, z⟩ => (⟨t, e, z⟩ : ∃ t, combL [c] = some t ∧ TrV nm H6 r t)⟩) fun r H5 s5 ⟨t, e, z⟩ => q _ _ ((((s1.trans s2).trans s3).trans s4).trans s5) ?_)
            show OTr nm H5 r (res (el l) (.fk a b))
            rw [eq0, e]; exact z
          · refine iteT (gv_use (gv_call1 (gv_var (R := fun H r => LstV (TrV nm) H r [c, d]) rfl (hk2.same tm_tr s4)) fun y H5 s5 ry => ⟨[c, d], ⟨y, rfl, ry, hwf, .inr ⟨c, d, rfl, hcd⟩⟩, fun r H6 s6 ⟨t, e, z⟩ => (⟨t, e, z⟩ : ∃ t, combL [c, d] = some t ∧ TrV nm H6 r t)⟩) fun r H5 s5 ⟨t, e, z⟩ => q _ _ ((((s1.trans s2).trans s3).trans s4).trans s5) ?_)
            show OTr nm H5 r (res (el l) (.fk a b))
            rw [eq0, e]; exact z
theorem ok__law_to (F : FnD K "_law_to" s_lawto f fd) (B : Bi mg) (N : Nm nm n) (c__law_fork : Cal P w K mg base 2 "_law_fork" ["_law_parts"] (spFork nm n)) (m : mg "_law_to" = some (.ref f)) : ∀ h, FnOk P w K mg base CX0 (h + 2) f fd ["_law_tree_here", "_law_names_here"] (spLawTo K nm n h)
  | 0 => ⟨fun vs H Q E ⟨t, ⟨v, u, e, _⟩, _⟩ => by rw [e]; rfl, fun _ _ _ _ _ _ _ _ _ _ _ _ _ ⟨t, ⟨_, _, _, _, _, _, _, h⟩, _⟩ => absurd h (by have := sz_pos t.1; omega)⟩
  | h + 1 => st__law_to F B N c__law_fork (by omega) (cal_mk F (ok__law_to F B N c__law_fork m h) m (bd2 fun _ _ _ _ _ _ _ _ => by first | rfl | kernel_rfl))
/-! ### _law_nodes -/
theorem sc__law_nodes : FnScope ["_law_tree_here", "_law_name"] ["_law_tree_here"] (defScope s_lawnodes) := ⟨rfl, rfl, rfl, by decide +kernel, rfl, by decide +kernel, by decide +kernel⟩
theorem ok__law_nodes (F : FnD K "_law_nodes" s_lawnodes f fd) (B : Bi mg) (N : Nm nm n) (c__law_lots : Cal P w K mg base 2 "_law_lots" ["_law_tree_here"] (spLotsOf nm n)) (c__law_below : Cal P w K mg base 1 "_law_below" ["_law_tree_here"] (spNamesIn nm n)) : FnOk P w K mg base CX0 3 f fd ["_law_tree_here"] (spNodesOf nm n) := by
  refine F.ok sc__law_nodes (fun vs H Q E h => ?_) (fun cdv A outer s H vs Q E hr h => ?_)
  · obtain ⟨t, ⟨v, rfl, _⟩, _⟩ := h; rfl
  · obtain ⟨t, ⟨v, rfl, hv, hw⟩, q⟩ := h
    refine ⟨_, PSs.nox (pss_one (ps_ret (pe_op op_cat (pe_cal c__law_lots (hr.mono (by first | decide | omega)) (pa_cons (pv 0) pa_nil)) (pe_lc (own := [("_law_name", 1)]) rfl sc__law_nodes.nd (piT K (pe_cal c__law_below (hr.mono (by first | decide | omega)) (pa_cons (pv 0) pa_nil))) (blkOk_by (N := ["_law_tree_here", "_law_name"]) (sc := defScope s_lawnodes) (by decide +kernel)) (fun _ _ _ _ _ => (pg_name (i := 1) sc__law_nodes.nd rfl (by first | exact Or.inl rfl | exact Or.inr rfl))) (fun _ _ _ _ _ => pts_nil) (fun _ _ _ _ _ => (pe_tup (pa_cons (pv 1) pa_nil))))))), ?_⟩
    have hls := hw.lenS
    have hfew := N.few
    have hsl := sizeLine_eq
    refine r_ret (r_op (gv_use (gv_call1 (R := fun H1 r => ∃ L, L.Perm ((forks t).map nmS) ∧ LstN (LotV nm) H H1 r L) (gv_var rfl hv) fun x H1 s1 rx => ⟨t, ⟨x, rfl, rx, hw⟩, fun r H2 s2 ⟨L, pm, z⟩ => ⟨L, pm, z.back s1⟩⟩) fun r H1 s1 ⟨L, pm, p1, xs, e1, f1, hp1, r1⟩ => ?_))
    refine gv_use (gv_lcT0 (fun x => [x]) (fun as => as = nmS t) (tm_nm (nm := nm)) (tm_lot (nm := nm)) (gv_call1 (gv_var rfl (tm_tr.same s1 hv)) fun x H2 s2 rx => ⟨t, ⟨x, rfl, rx, hw⟩, fun r H3 s3 z => ⟨_, rfl, (lot_tup.mp z).sq⟩⟩) (fun _ e => by rw [e]; omega) (fun _ => rfl) ?_) fun r2 H2 s2 ⟨_, e, p2, ys, e2, f2, hp2, rr2⟩ => ?_
    · rintro _ x c H2 rfl hc s2 rx
      exact gv_nm1 (gv_var (R := fun _ r => r = sv nm c) rfl rx)
    · subst e
      have l1 := r1.len
      have l2 := rr2.len
      have l3 := pm.length_eq
      have l4 := len_forks t
      have l5 := hw.len
      rw [List.length_map] at l2 l3
      refine ⟨p1, p2, xs, ys, e1, e2, s2 _ _ hp1, hp2, by omega, fun p hp => q _ _ ((s1.trans s2).trans (same_new hp _)) ⟨_, nodes_of_perm hw.ok pm, p, _, rfl, (s1.trans s2).free hp, upd_same, ?_⟩⟩
      exact (r1.imp fun _ _ k => tm_lot.same (s2.trans (same_new hp _)) k).app (rr2.imp fun _ _ k => tm_lot.same (same_new hp _) k)
/-! ### _law_head -/
theorem shN (N : Nm nm n) {l : List Nat} (h : ∀ x ∈ l, x < n) : SeqAt.shaped (.list (l.map (dN nm))) = true :=
  shaped_of (by simp only [PyData.canLay0]; exact lay_map _ l fun z hz => lay_dN N (h z hz)) (by have := depth_map (dN nm) 0 l (fun l _ => by simp [PyData.depth]); simp only [PyData.depth]; omega)
/-- [names] == [], [names] != [] -/
theorem gv_eqNs (N : Nm nm n) {ta : TE} {σ : L2.St} {H : Hp} {l : List Nat} (ha : Gv ta σ H fun H1 v => LstV (NmV nm) H1 v l) (hw : ∀ x ∈ l, x < n) : Gv (tOp (rEqD K) ta (tLst tNil)) σ H fun _ r => r = .bl (decide (l = [])) :=
  gv_imp (gv_eqD (da := .list (l.map (dN nm))) (db := .list []) ha (fun H4 s4 => gv_emptyL (α := Nat) (RA := NmV nm)) (fun x y H4 H5 s4 rx s5 ⟨p, ys, ey, hy, ry⟩ => ⟨let ⟨p5, zs5, e5, h5, r5⟩ := rx; by rw [e5]; exact .lst (SqL.of (s5 _ _ h5)) (dp_all (r5.imp fun _ _ k => tm_nm.same s5 k) fun _ _ => dp_nm), by rw [ey]; cases ry; exact .lst (SqL.of hy) .nil⟩) (shN N hw) sh_nilL) fun r H3 _ e => by
    rw [e]
    cases l <;> simp [PyData.eqv, PyData.eqvAll]
theorem gv_neNs (N : Nm nm n) {ta : TE} {σ : L2.St} {H : Hp} {l : List Nat} (ha : Gv ta σ H fun H1 v => LstV (NmV nm) H1 v l) (hw : ∀ x ∈ l, x < n) : Gv (tOp (rNeD K) ta (tLst tNil)) σ H fun _ r => r = .bl (decide (l ≠ [])) :=
  gv_imp (gv_neD (da := .list (l.map (dN nm))) (db := .list []) ha (fun H4 s4 => gv_emptyL (α := Nat) (RA := NmV nm)) (fun x y H4 H5 s4 rx s5 ⟨p, ys, ey, hy, ry⟩ => ⟨let ⟨p5, zs5, e5, h5, r5⟩ := rx; by rw [e5]; exact .lst (SqL.of (s5 _ _ h5)) (dp_all (r5.imp fun _ _ k => tm_nm.same s5 k) fun _ _ => dp_nm), by rw [ey]; cases ry; exact .lst (SqL.of hy) .nil⟩) (shN N hw) sh_nilL) fun r H3 _ e => by
    rw [e]
    cases l <;> simp [PyData.eqv, PyData.eqvAll]
def dIL (nm : Nat → Str) (c : Nat × List Nat) : PyData := .tuple [.int (c.1 : Nat), dL nm c.2]
theorem dp_il {H : Hp} {v : V} {c : Nat × List Nat} (h : PrV NtV (LotV nm) H v c) : Dp K H v (dIL nm c) := by
  obtain ⟨p, x, y, rfl, hp, hx, hy⟩ := h
  exact .tup (SqT.of hp) (.cons (by rw [show x = _ from hx]; exact .int _) (.cons (dp_lot hy) .nil))
theorem lt_il {c d : Nat × List Nat} (h : c.1 < d.1) : PySem.W.dataLt (dIL nm c) (dIL nm d) = true := by
  unfold dIL
  rw [dataLt_pair (p := .inl (c.1 : Nat)) (q := .inl (d.1 : Nat)) (by simp only [PySem.W.keyToks]) (by simp only [PySem.W.keyToks]) fun e => by have := Sum.inl.inj e; omega, dataLt_int]
  exact decide_eq_true (by omega)
def nsc__law_head : Scope := { kind := .function, names := [(".0", .local), ("_law_node", .cell), ("_law_lot", .cell)], isGenerator := false, isCoroutine := false }
theorem sc__law_head : FnScope ["_law_nodes_here", "_law_lot", "_law_some", "_law_node", "_law_name"] ["_law_nodes_here", "_law_lot"] (defScope s_lawhead) := ⟨rfl, rfl, rfl, by decide +kernel, rfl, by decide +kernel, by decide +kernel⟩
theorem ok__law_head (F : FnD K "_law_head" s_lawhead f fd) (B : Bi mg) (N : Nm nm n) : FnOk P w K mg base CX0 1 f fd ["_law_nodes_here", "_law_lot"] (spHeadOf nm n) := by
  refine F.ok sc__law_head (fun vs H Q E h => ?_) (fun cdv A outer s H vs Q E hr h => ?_)
  · obtain ⟨t, ⟨v, u, rfl, _⟩, _⟩ := h; rfl
  · obtain ⟨⟨t, L, l⟩, ⟨v, u, rfl, hv, hu', hw, hN, hne, hlen, hsub⟩, q⟩ := h
    simp only at hv hu' hw hN hne hlen hsub
    have hu := hr.units
    refine ⟨_, PSs.nox (pss_cons (ps_setLc (own := [("_law_node", 3)]) (i := 2) rfl sc__law_head.nd rfl rfl (sw_true rfl rfl rfl (by decide +kernel)) (piL K (pv 0)) (blkOk_by (N := ["_law_nodes_here", "_law_lot", "_law_some", "_law_node", "_law_name"]) (sc := defScope s_lawhead) (by decide +kernel)) (fun _ _ _ _ _ => (pg_name (i := 3) sc__law_head.nd rfl (by first | exact Or.inl rfl | exact Or.inr rfl))) (fun _ _ _ _ _ => pts_one (pt_cmpR (eqD K hu) (pe_lc (own := [("_law_name", 4)]) rfl sc__law_head.nd (piT K (pv 1)) (blkOk_by (N := ["_law_nodes_here", "_law_lot", "_law_some", "_law_node", "_law_name"]) (sc := nsc__law_head) (by decide +kernel)) (fun _ _ _ _ _ => (pg_name (i := 4) sc__law_head.nd rfl (by first | exact Or.inl rfl | exact Or.inr rfl))) (fun _ _ _ _ _ => pts_one (pt_cmpR (niS K) (pv 4) (pv 3) (by rfl))) (fun _ _ _ _ _ => (pv 4))) (pe_lst pa_nil) (by rfl))) (fun _ _ _ _ _ => (pv 3)))
      (pss_one (ps_ret (pe_ix (ixT K) (pe_ix (ixL K) (pe_callB (sortQ K hu) (by rfl) B.sorted boot_sorted (pa_cons (pe_lc (own := [("_law_node", 3)]) rfl sc__law_head.nd (piL K (pv 2)) (blkOk_by (N := ["_law_nodes_here", "_law_lot", "_law_some", "_law_node", "_law_name"]) (sc := defScope s_lawhead) (by decide +kernel)) (fun _ _ _ _ _ => (pg_name (i := 3) sc__law_head.nd rfl (by first | exact Or.inl rfl | exact Or.inr rfl))) (fun _ _ _ _ _ => pts_nil) (fun _ _ _ _ _ => (pe_tup (pa_cons (pe_callB (lenQ K) (by rfl) B.len boot_len (pa_cons (pv 3) pa_nil)) (pa_cons (pv 3) pa_nil))))) pa_nil)) (pe_int) (fun _ _ => rfl)) (pe_int) (fun _ _ => rfl))))), ?_⟩
    have hLl := hN.len
    have h9 := hw.sz N.few
    refine r_seq (r_asg (gv_use (gv_lcL (fun Nd => l.all fun x => decide (x ∈ Nd)) id (fun as => as = L) (tm_lot (nm := nm)) (tm_lot (nm := nm)) (gv_var rfl ⟨_, rfl, hv.sq⟩) (fun _ e => by rw [e]; omega) (fun _ => rfl) ?_ ?_) fun sv1 H1 s1 ⟨as, e, hs1⟩ => ?_))
    · rintro _ x c H2 rfl hc s2 rx
      have hcl := hN.lt hw c hc
      refine gt_test (gv_imp (gv_eqNs N (l := l.filter fun x => decide (x ∉ c)) (gv_imp (gv_lcT (fun x => decide (x ∉ c)) id (fun as => as = l) (tm_nm (nm := nm)) (tm_nm (nm := nm)) (gv_var (R := fun H r => ∃ as, as = l ∧ SqTV K (NmV nm) H r as) rfl ⟨_, rfl, (lot_tup.mp (tm_lot.same s2 hu')).sq⟩) (fun _ e => by rw [e]; omega) (fun _ => rfl) ?_ ?_) fun r H3 s3 ⟨as, e, z⟩ => by rw [e, List.map_id] at z; exact z.l) fun x hx => hw.lt x (hsub x (List.mem_filter.mp hx).1)) fun r H3 _ e => ?_)
      · rintro _ y d H3 rfl hd s3 ry
        refine gt_test fun Q' q' => ?_
        obtain ⟨a, e1, ha⟩ := tm_lot.same s3 rx
        rw [show y = sv nm d from ry]
        refine r_op (r_var rfl (r_var rfl ⟨a, _, e1, .inr (SqT.of ha), rfl, flat_svs, ?_⟩))
        rw [if_pos rfl, inV_sv N (hw.lt d (hsub d hd)) hcl]
        exact q' _ _ (Same.refl _) (congrArg V.bl (by simp))
      · rintro _ y d H3 rfl hd s3 ry _
        exact gv_var rfl ry
      · rw [e]
        refine congrArg V.bl (bool_iff ?_).symm
        rw [List.all_eq_true, List.filter_eq_nil_iff]
        constructor
        · intro h x hx; simpa using h x hx
        · intro h x hx; simpa using h x hx
    · rintro _ x c H2 rfl hc s2 rx _
      exact gv_var rfl rx
    · rw [e, List.map_id] at hs1
      have hmem := head_some hN hsub
      have hmin := fun {m : List Nat} => head_min (m := m) hw.ok hN hsub hne
      have hFl : (L.filter fun Nd => l.all fun x => decide (x ∈ Nd)).length ≤ 9 := by
        have := List.length_filter_le (fun Nd => l.all fun x => decide (x ∈ Nd)) L
        omega
      generalize (L.filter fun Nd => l.all fun x => decide (x ∈ Nd)) = F' at hs1 hmem hmin hFl
      refine r_ret (r_op (r_op (gv_use (gv_sorted (d := dIL nm) (fun as => as = F'.map fun Nd => (Nd.length, Nd)) (tm_pr tm_in (tm_lot (nm := nm))) (gv_imp (gv_lcL0 (fun Nd => (Nd.length, Nd)) (fun as => as = F') (tm_lot (nm := nm)) (tm_pr tm_in (tm_lot (nm := nm))) (gv_var (R := fun H r => ∃ as, as = F' ∧ SqLV K (LotV nm) H r as) rfl ⟨_, rfl, hs1.l.sq⟩) (fun _ e => by rw [e]; omega) (fun _ => rfl) ?_) fun r H2 s2 ⟨as, e, z⟩ => ⟨_, rfl, by rw [e] at z; exact z.l.sq.q⟩) (fun as v a H1 _ _ r => dp_il r) (fun as _ => PySem.W.AllAlike.of fun a b => ?_) (fun as _ => .inl fun d hd => by
          obtain ⟨l, hl, rfl⟩ := List.mem_map.mp hd
          exact ⟨_, _, rfl⟩) (fun as _ a _ => ?_)) fun r H2 s2 ⟨as, bs, e, pm, sr, hb⟩ => ?_)))
      · rintro _ x c H2 rfl hc s2 rx
        refine gv_pair (a := c.length) (b := c) tm_in (tm_lot (nm := nm)) (gv_len (n := c.length) (gv_var rfl ((lot_tup.mp rx).lens (K := K)))) fun H3 s3 => gv_var (R := fun H r => LotV nm H r c) rfl (tm_lot.same s3 rx)
      · simp only [dIL, PySem.W.alike, PySem.W.alikeAll, dL, alikeAll_dN, Bool.and_self]
      · have := depth_dL (nm := nm) a.2
        simp only [dIL, PyData.depth, PyData.depthAll]
        omega
      · rw [e] at pm
        obtain ⟨p, xs, er, _, hp, rr⟩ := hb
        cases rr with
        | nil =>
          have := pm.length_eq
          rw [List.length_map] at this
          rw [List.eq_nil_of_length_eq_zero this.symm] at hmem
          cases hmem
        | @cons x0 c0 xs0 bs0 r0 rr =>
        obtain ⟨N0, hN0, e0⟩ := List.mem_map.mp (pm.mem_iff.mp List.mem_cons_self)
        have hN0e : N0 = nmS (hd (el l) t) := hmin hN0 fun m' hm' => by
          have h1 : (m'.length, m') ∈ c0 :: bs0 := pm.mem_iff.mpr (List.mem_map.mpr ⟨m', hm', rfl⟩)
          rcases List.mem_cons.mp h1 with h | h
          · rw [← h] at e0
            have := (Prod.mk.inj e0).1
            omega
          · have h2 := (List.pairwise_cons.mp sr).1 _ h
            rcases Nat.lt_or_ge m'.length N0.length with k | k
            · rw [← e0, lt_il k] at h2; cases h2
            · exact k
        subst e0
        obtain ⟨p0, y1, y2, rfl, hp0, _, hy2⟩ := r0
        refine r_c ⟨p, _, _, .ref p0, er, rfl, SqL.of hp, atI_nat (j := 0) rfl, r_c ⟨p0, _, _, y2, rfl, rfl, SqT.of hp0, atI_nat (j := 1) rfl, q _ _ (s1.trans s2) ?_⟩⟩
        show LotV nm H2 y2 (nmS (hd (el l) t))
        rw [← hN0e]; exact hy2
/-! ### _law_way -/
theorem gv_eqU (N : Nm nm n) {ta : TE} {σ : L2.St} {H : Hp} {l : List Nat} (ha : Gv ta σ H fun H1 v => LotV nm H1 v l) (hl : ∀ x ∈ l, x < n) : Gv (tOp (rEqD K) ta (tTup tNil)) σ H fun _ r => r = .bl (decide (l = [])) :=
  gv_imp (gv_eqD (da := dL nm l) (db := .tuple []) ha (fun H2 s2 => gv_unit (α := Nat) (RA := NmV nm)) (fun x y H2 H3 s2 rx s3 ⟨p, ys, ey, hy, ry⟩ => ⟨dp_lot (tm_lot.same s3 rx), by rw [ey]; cases ry; exact .tup (SqT.of hy) .nil⟩) (sh_dL N hl) sh_nil) fun r H3 _ e => by
    rw [e]
    cases l <;> simp [dL, PyData.eqv, PyData.eqvAll]
def nsc__law_way : Scope := { kind := .function, names := [(".0", .local), ("_law_node", .cell), ("_law_lot", .cell)], isGenerator := false, isCoroutine := false }
theorem sc__law_way : FnScope ["_law_nodes_here", "_law_lot", "_law_is_top", "_law_met", "_law_node", "_law_name", "_law_many"] ["_law_nodes_here", "_law_lot", "_law_is_top"] (defScope s_lawway) := ⟨rfl, rfl, rfl, by decide +kernel, rfl, by decide +kernel, by decide +kernel⟩
theorem ok__law_way (F : FnD K "_law_way" s_lawway f fd) (B : Bi mg) (N : Nm nm n) (c__law_head : Cal P w K mg base 1 "_law_head" ["_law_nodes_here", "_law_lot"] (spHeadOf nm n)) : FnOk P w K mg base CX0 2 f fd ["_law_nodes_here", "_law_lot", "_law_is_top"] (spWayOf nm n) := by
  refine F.ok sc__law_way (fun vs H Q E h => ?_) (fun cdv A outer s H vs Q E hr h => ?_)
  · obtain ⟨t, ⟨v, u, rfl, _⟩, _⟩ := h; rfl
  · obtain ⟨⟨t, L, l, b⟩, ⟨v, u, rfl, hv, hu', hw, hN, hlen, hln, hsub⟩, q⟩ := h
    simp only at hv hu' hw hN hlen hln hsub
    have hu := hr.units
    refine ⟨_, PSs.nox (pss_cons (ps_setLc (own := [("_law_node", 4)]) (i := 3) rfl sc__law_way.nd rfl rfl (sw_true rfl rfl rfl (by decide +kernel)) (piL K (pv 0)) (blkOk_by (N := ["_law_nodes_here", "_law_lot", "_law_is_top", "_law_met", "_law_node", "_law_name", "_law_many"]) (sc := defScope s_lawway) (by decide +kernel)) (fun _ _ _ _ _ => (pg_name (i := 4) sc__law_way.nd rfl (by first | exact Or.inl rfl | exact Or.inr rfl))) (fun _ _ _ _ _ => pts_one (pt_cmpR (neD K hu) (pe_lc (own := [("_law_name", 5)]) rfl sc__law_way.nd (piT K (pv 1)) (blkOk_by (N := ["_law_nodes_here", "_law_lot", "_law_is_top", "_law_met", "_law_node", "_law_name", "_law_many"]) (sc := nsc__law_way) (by decide +kernel)) (fun _ _ _ _ _ => (pg_name (i := 5) sc__law_way.nd rfl (by first | exact Or.inl rfl | exact Or.inr rfl))) (fun _ _ _ _ _ => pts_one (pt_cmpR (inS K) (pv 5) (pv 4) (by rfl))) (fun _ _ _ _ _ => (pv 5))) (pe_lst pa_nil) (by rfl))) (fun _ _ _ _ _ => (pv 4)))
      (pss_cons (ps_if ((pw_or (pt_val (pv 2)) (pw_or1 (pt_cmpR (eqD K hu) (pv 1) (pe_tup pa_nil) (by rfl)))).pt) (pss_one (ps_ret (pv 3))) pss_nil)
      (pss_cons (ps_set (i := 6) sc__law_way.nd rfl (by first | exact Or.inl rfl | exact Or.inr rfl) (pe_callB (lenQ K) (by rfl) B.len boot_len (pa_cons (pe_cal c__law_head (hr.mono (by first | decide | omega)) (pa_cons (pv 0) (pa_cons (pv 1) pa_nil))) pa_nil)))
      (pss_one (ps_ret (pe_lc (own := [("_law_node", 4)]) rfl sc__law_way.nd (piL K (pv 3)) (blkOk_by (N := ["_law_nodes_here", "_law_lot", "_law_is_top", "_law_met", "_law_node", "_law_name", "_law_many"]) (sc := defScope s_lawway) (by decide +kernel)) (fun _ _ _ _ _ => (pg_name (i := 4) sc__law_way.nd rfl (by first | exact Or.inl rfl | exact Or.inr rfl))) (fun _ _ _ _ _ => pts_one (pt_cmpR op_le (pe_callB (lenQ K) (by rfl) B.len boot_len (pa_cons (pv 4) pa_nil)) (pv 6) (by rfl))) (fun _ _ _ _ _ => (pv 4)))))))), ?_⟩
    have hLl := hN.len
    have h9 := hw.sz N.few
    have hfw := N.few
    refine r_seq (r_asg (gv_use (gv_lcL (fun Nd => l.any fun x => decide (x ∈ Nd)) id (fun as => as = L) (tm_lot (nm := nm)) (tm_lot (nm := nm)) (gv_var rfl ⟨_, rfl, hv.sq⟩) (fun _ e => by rw [e]; omega) (fun _ => rfl) ?_ ?_) fun r H1 s1 ⟨as, e, hr1⟩ => ?_))
    · rintro _ x c H2 rfl hc s2 rx
      have hcl := hN.lt hw c hc
      refine gt_test (gv_imp (gv_neNs N (l := l.filter fun x => decide (x ∈ c)) (gv_imp (gv_lcT (fun x => decide (x ∈ c)) id (fun as => as = l) (tm_nm (nm := nm)) (tm_nm (nm := nm)) (gv_var (R := fun H r => ∃ as, as = l ∧ SqTV K (NmV nm) H r as) rfl ⟨_, rfl, (lot_tup.mp (tm_lot.same s2 hu')).sq⟩) (fun _ e => by rw [e]; omega) (fun _ => rfl) ?_ ?_) fun r H3 s3 ⟨as, e, z⟩ => by rw [e, List.map_id] at z; exact z.l) fun x hx => hln x (List.mem_filter.mp hx).1) fun r H3 _ e => ?_)
      · rintro _ y d H3 rfl hd s3 ry
        refine gt_test fun Q' q' => ?_
        obtain ⟨a, e1, ha⟩ := tm_lot.same s3 rx
        rw [show y = sv nm d from ry]
        refine r_op (r_var rfl (r_var rfl ⟨a, _, e1, .inr (SqT.of ha), rfl, flat_svs, ?_⟩))
        rw [if_neg Bool.false_ne_true, inV_sv N (hln d hd) hcl]
        exact q' _ _ (Same.refl _) rfl
      · rintro _ y d H3 rfl hd s3 ry _
        exact gv_var rfl ry
      · rw [e]
        refine congrArg V.bl (bool_iff ?_).symm
        rw [List.any_eq_true, Ne, List.filter_eq_nil_iff]
        constructor
        · rintro ⟨x, hx, h⟩ k
          exact k x hx h
        · intro k
          refine Classical.byContradiction fun z => k fun x hx h => z ⟨x, hx, h⟩
    · rintro _ x c H2 rfl hc s2 rx _
      exact gv_var rfl rx
    · rw [e, List.map_id] at hr1
      refine r_seq (r_if (gt_use (b := b || decide (l = [])) (gt_or (gt_gv (gv_var rfl rfl)) fun H2 s2 => gt_test (gv_eqU N (gv_var (R := fun H r => LotV nm H r l) rfl (tm_lot.same (s1.trans s2) hu')) hln)) fun H2 s2 => ?_))
      cases b with
      | true =>
        refine iteT (r_ret (r_var rfl (q _ _ (s1.trans s2) ?_)))
        obtain ⟨p, xs, e1, e2, e3, e4⟩ := hr1
        refine ⟨p, xs, e1, e2, s2 _ _ e3, ?_⟩
        have : wayF t l true L = L.filter fun Nd => l.any fun x => decide (x ∈ Nd) := by
          unfold wayF
          exact List.filter_eq_self.mpr fun _ _ => rfl
        show P2 (LotV nm H2) xs (wayF t l true L)
        rw [this]
        exact e4.imp fun _ _ k => tm_lot.same s2 k
      | false =>
        obtain ⟨hne, hsb⟩ := hsub rfl
        rw [decide_eq_false hne]
        refine iteF (r_next (r_seq (r_asg (gv_use (gv_len (n := (nmS (hd (el l) t)).length) (gv_imp (gv_call2 (R := fun H1 r => LotV nm H1 r (nmS (hd (el l) t))) (gv_var (R := fun H r => LstV (LotV nm) H r L) rfl (hv.same tm_lot (s1.trans s2))) (fun H3 s3 => gv_var (R := fun H r => LotV nm H r l) rfl (tm_lot.same ((s1.trans s2).trans s3) hu')) fun x y H3 H4 s3 rx s4 ry => ⟨(t, L, l), ⟨x, y, rfl, rx.same tm_lot s4, ry, hw, hN, hne, hlen, hsb⟩, fun r H5 s5 z => z⟩) fun r H3 s3 z => by have := (lot_tup.mp z).lens (K := K); exact this)) fun m H3 s3 em => ?_))))
        subst em
        refine r_ret (gv_use (gv_lcL (fun Nd => decide (Nd.length ≤ (nmS (hd (el l) t)).length)) id (fun as => as = L.filter fun Nd => l.any fun x => decide (x ∈ Nd)) (tm_lot (nm := nm)) (tm_lot (nm := nm)) (gv_var rfl ⟨_, rfl, (hr1.l.same tm_lot (s2.trans s3)).sq⟩) (fun _ e => by rw [e]; have := List.length_filter_le (fun Nd => l.any fun x => decide (x ∈ Nd)) L; omega) (fun _ => rfl) ?_ ?_) fun r H4 s4 ⟨as, e4, hr4⟩ => q _ _ (((s1.trans s2).trans s3).trans s4) ?_)
        · rintro _ x c H4 rfl hc s4 rx
          refine gt_test fun Q' q' => r_op (gv_use (gv_len (n := c.length) (gv_var rfl ((lot_tup.mp rx).lens (K := K)))) fun y H5 s5 ey => r_var rfl ⟨_, _, ey, rfl, q' _ _ s5 ?_⟩)
          exact congrArg V.bl (decide_eq_decide.mpr Int.ofNat_le)
        · rintro _ x c H4 rfl hc s4 rx _
          exact gv_var rfl rx
        · rw [e4, List.map_id] at hr4
          have : wayF t l false L = (L.filter fun Nd => l.any fun x => decide (x ∈ Nd)).filter fun Nd => decide (Nd.length ≤ (nmS (hd (el l) t)).length) := by unfold wayF; simp
          show LstN (LotV nm) H H4 r (wayF t l false L)
          rw [this]
          exact hr4.back ((s1.trans s2).trans s3)
end
end Jw
end

section
set_option Elab.async false
set_option linter.all false
set_option maxRecDepth 100000
set_option maxHeartbeats 4000000
/-! The law's own defs: is_forest. -/
namespace Jt
theorem ways_snoc (t : Tr) (top : List Nat) (o : List (List Nat)) (l : List Nat) (L : List (List Nat)) : ways t top (o ++ [l]) L = ways t top o L ++ wayF t l false L := by
  simp [ways, List.append_assoc]
/-- the lots that are asked -/
def lts (top : List Nat) (o : List (List Nat)) : List (List Nat) := (if top = [] then [] else [top]) ++ o
theorem nodup_len {α : Type} [DecidableEq α] {bs W : List α} (h1 : bs.Nodup) (h2 : ∀ l, l ∈ bs ↔ l ∈ W) : bs.length = W.length ↔ W.Nodup := by
  constructor
  · intro e
    exact (perm_of_sub h1 (fun x hx => (h2 x).mp hx) (by omega)).nodup_iff.mp h1
  · intro h
    exact ((List.perm_ext_iff_of_nodup h1 h).mpr h2).length_eq
end Jt
namespace Jw
open PySem PySem.Spec PyProof.Rows L2 Jt JH
section
variable {P : Program} {w : World} {K : PySem.W.Frag} {mg : Str → Option Value} {base : Heap} {f : Addr} {fd : FuncData} {nm : Nat → Str} {n : Nat}
def rInt1 : List V → Hp → VK → Prop := fun xs H Q => (∃ i, xs = [.int i] ∧ Q (.int i) H) ∨ ∃ k, xs = [.bl k] ∧ Q (.int (if k then 1 else 0)) H
/-- [x] * int(b) -/
theorem gv_opt {α : Type} {R : Hp → V → α → Prop} {σ : L2.St} {H : Hp} {ta te : TE} {x : α} {b : Bool} (mR : TM R) (ha : Gv ta σ H fun H1 v => R H1 v x) (h : ∀ H1, Same H H1 → Gv te σ H1 fun _ v => v = .bl b) :
    Gv (tOp rRep (tLst (tCons ta tNil)) (tCB rInt1 (tCons te tNil))) σ H fun H1 v => LstN R H H1 v (if b = true then [x] else []) := fun Q q =>
  r_op (r_lst1 (gv_use ha fun y H1 s1 ry => ⟨one_line, fun p hp => r_b1 (gv_use (h _ (s1.trans (same_new hp _))) fun z H2 s2 e => .inr ⟨b, by rw [e], p, _, [y], rfl, rfl, s2 _ _ upd_same, by split <;> decide, by split <;> decide, by split <;> simp <;> decide, fun p2 hp2 => q _ _ (((s1.trans (same_new hp _)).trans s2).trans (same_new hp2 _)) ⟨p2, _, rfl, ((s1.trans (same_new hp _)).trans s2).free hp2, upd_same, by
    cases b
    · exact .nil
    · exact .cons (mR.same (((same_new hp _).trans s2).trans (same_new hp2 _)) ry) .nil⟩⟩)⟩))
/-- a list and a list -/
theorem gv_catLs {α : Type} {R : Hp → V → α → Prop} {σ : L2.St} {H : Hp} {ta tb : TE} {as bs : List α} (mR : TM R) (ha : Gv ta σ H fun H1 v => LstV R H1 v as) (hb : ∀ H1, Same H H1 → Gv tb σ H1 fun H1 v => LstV R H1 v bs) (hl : as.length + bs.length ≤ 100000) : Gv (tOp rCat ta tb) σ H fun H1 v => LstN R H H1 v (as ++ bs) := fun Q q =>
  r_op (gv_use ha fun x H1 s1 ⟨p, xs, e1, h1, r1⟩ => gv_use (hb H1 s1) fun y H2 s2 ⟨p2, ys, e2, h2, r2⟩ => ⟨p, p2, xs, ys, e1, e2, s2 _ _ h1, h2, by
    have := r1.len
    have := r2.len
    have : (100000 : Nat) ≤ sizeLine := by decide
    omega, fun p3 hp => q _ _ ((s1.trans s2).trans (same_new hp _)) ⟨p3, _, rfl, (s1.trans s2).free hp, upd_same, (r1.imp fun _ _ k => mR.same (s2.trans (same_new hp _)) k).app (r2.imp fun _ _ k => mR.same (same_new hp _) k)⟩⟩)
theorem sc__law_is_forest : FnScope ["_law_one", "_law_other", "_law_top", "_law_others", "_law_lot", "_law_tree_here", "_law_nodes_here", "_law_met"] ["_law_one", "_law_other", "_law_top", "_law_others"] (defScope s_lawis_forest) := ⟨rfl, rfl, rfl, by decide +kernel, rfl, by decide +kernel, by decide +kernel⟩
theorem ok__law_is_forest (F : FnD K "_law_is_forest" s_lawis_forest f fd) (B : Bi mg) (N : Nm nm n) (c__law_to : Cal P w K mg base 11 "_law_to" ["_law_tree_here", "_law_names_here"] (spLawTo K nm n 9)) (c__law_nodes : Cal P w K mg base 3 "_law_nodes" ["_law_tree_here"] (spNodesOf nm n)) (c__law_way : Cal P w K mg base 2 "_law_way" ["_law_nodes_here", "_law_lot", "_law_is_top"] (spWayOf nm n)) :
    FnOk P w K mg base CX0 12 f fd ["_law_one", "_law_other", "_law_top", "_law_others"] (spShare nm n) := by
  refine F.ok sc__law_is_forest (fun vs H Q E h => ?_) (fun cdv A outer s H vs Q E hr h => ?_)
  · obtain ⟨t, ⟨v, v', u, o, rfl, _⟩, _⟩ := h; rfl
  · obtain ⟨⟨T, G, top, o⟩, ⟨v, v', u, ov, rfl, hv, hv', hu', ho, hw, hw', hO, hO'⟩, q⟩ := h
    simp only at hv hv' hu' ho hw hw' hO hO'
    have hu := hr.units
    refine ⟨_, PSs.nox (pss_cons (ps_for PassesOwn.never rfl (piL K (pe_op op_cat (pe_op op_rep (pe_lst (pa_cons (pv 2) pa_nil)) (pe_callTy call_int1 (by rfl) B.int boot_int (pa_cons (pe_cmpR (neD K hu) (pv 2) (pe_tup pa_nil) (by rfl)) pa_nil))) (pe_callTy (listQ K) (by rfl) B.list boot_list (pa_cons (pv 3) pa_nil)))) (pg_name (i := 4) sc__law_is_forest.nd rfl (by first | exact Or.inl rfl | exact Or.inr rfl)) (pss_one (ps_if (pt_cmpR (neD K hu) (pe_cal c__law_to (hr.mono (by first | decide | omega)) (pa_cons (pv 0) (pa_cons (pv 4) pa_nil))) (pe_cal c__law_to (hr.mono (by first | decide | omega)) (pa_cons (pv 1) (pa_cons (pv 4) pa_nil))) (by rfl)) (pss_one (ps_ret (pe_bl))) pss_nil)))
      (pss_cons (ps_for PassesOwn.never rfl (piT K (pe_tup (pa_cons (pv 0) (pa_cons (pv 1) pa_nil)))) (pg_name (i := 5) sc__law_is_forest.nd rfl (by first | exact Or.inl rfl | exact Or.inr rfl)) (pss_cons (ps_set (i := 6) sc__law_is_forest.nd rfl (by first | exact Or.inl rfl | exact Or.inr rfl) (pe_cal c__law_nodes (hr.mono (by first | decide | omega)) (pa_cons (pv 5) pa_nil)))
      (pss_cons (ps_set (i := 7) sc__law_is_forest.nd rfl (by first | exact Or.inl rfl | exact Or.inr rfl) (pe_cal c__law_way (hr.mono (by first | decide | omega)) (pa_cons (pv 6) (pa_cons (pv 2) (pa_cons (pe_bl) pa_nil)))))
      (pss_cons (ps_for PassesOwn.never rfl (piT K (pv 3)) (pg_name (i := 4) sc__law_is_forest.nd rfl (by first | exact Or.inl rfl | exact Or.inr rfl)) (pss_one (ps_set (i := 7) sc__law_is_forest.nd rfl (by first | exact Or.inl rfl | exact Or.inr rfl) (pe_op op_cat (pv 7) (pe_cal c__law_way (hr.mono (by first | decide | omega)) (pa_cons (pv 6) (pa_cons (pv 4) (pa_cons (pe_bl) pa_nil))))))))
      (pss_one (ps_if (pt_cmpR op_ne (pe_callB (lenQ K) (by rfl) B.len boot_len (pa_cons (pe_callB (sortSetS K P w rfl hu) (by rfl) B.sorted boot_sorted (pa_cons (pe_callTy (setS K P w rfl hu) (by rfl) B.set boot_set (pa_cons (pv 7) pa_nil)) pa_nil)) pa_nil)) (pe_callB (lenQ K) (by rfl) B.len boot_len (pa_cons (pv 7) pa_nil)) (by rfl)) (pss_one (ps_ret (pe_bl))) pss_nil))))))
      (pss_one (ps_ret (pe_bl))))), ?_⟩
    have hfw := N.few
    have hol := hO.ol
    have h9 := hw.sz hfw
    have h9' := hw'.sz hfw
    have hlt : ∀ l ∈ lts top o, ∀ x ∈ l, x < n := fun l hl x hx => by
      rcases List.mem_append.mp hl with h | h
      · by_cases ht : top = []
        · rw [if_pos ht] at h; cases h
        · rw [if_neg ht] at h
          rw [List.mem_singleton.mp h] at hx
          exact hO.tl.2 x hx
      · exact hw.lt x ((hO.each l h).2.2 x hx)
    refine r_seq (r_forL (gv_use (gv_catLs (as := if decide (top ≠ []) = true then [top] else []) (bs := o) (tm_lot (nm := nm)) (gv_imp (gv_opt (x := top) (b := decide (top ≠ [])) (tm_lot (nm := nm)) (gv_var rfl hu') fun H1 s1 => gv_neU N (gv_var (R := fun H r => LotV nm H r top) rfl (tm_lot.same s1 hu')) hO.tl.2) fun _ _ _ z => z.l) (fun H1 s1 => gv_imp (gv_listOf (K := K) (fun as => as = o) (tm_lot (nm := nm)) (gv_var (R := fun H r => ∃ as, as = o ∧ SqV K (LotV nm) H r as) rfl ⟨o, rfl, ((tm_tup tm_lot).same s1 ho).sq.q⟩)) fun r H2 s2 ⟨as, e, z⟩ => by rw [e] at z; exact z.l) (by split <;> simp <;> omega)) fun lv H1 s1 hl1 => ?_))
    have elts : ((if decide (top ≠ []) = true then [top] else []) ++ o) = lts top o := by
      unfold lts
      by_cases ht : top = [] <;> simp [ht]
    rw [elts] at hl1
    obtain ⟨pl, xs, rfl, _, hpl, rl⟩ := hl1
    have hxl := rl.len
    refine ⟨pl, rfl, ⟨xs, SqL.of hpl⟩, ?_⟩
    have hS : Share T G top o ↔ (∀ l ∈ lts top o, res (el l) T = res (el l) G) ∧ Apart T top o ∧ Apart G top o := by
      unfold Share
      refine and_congr ⟨fun h l hl => ?_, fun h l hl hn => ?_⟩ Iff.rfl
      · rcases List.mem_append.mp hl with h1 | h1
        · by_cases ht : top = []
          · rw [if_pos ht] at h1; cases h1
          · rw [if_neg ht] at h1
            rw [List.mem_singleton.mp h1]
            exact h top List.mem_cons_self ht
        · exact h l (List.mem_cons_of_mem _ h1) (hO.each l h1).1
      · refine h l (List.mem_append.mpr ?_)
        rcases List.mem_cons.mp hl with e | hl
        · subst e; exact .inl (by rw [if_neg hn]; exact List.mem_singleton.mpr rfl)
        · exact .inr hl
    refine for_it (walk_list (K := K) (a := pl) (xs := xs)) (fun i σ H' => Same H1 H' ∧ (∃ a b c d, σ = [some v, some v', some u, some ov, a, b, c, d]) ∧ ∀ l ∈ (lts top o).take i, res (el l) T = res (el l) G) ⟨Same.refl _, ⟨_, _, _, _, rfl⟩, fun l h => by simp at h⟩ (fun i σ H' _ p => p.1.seq (SqL.of hpl)) ?_ ?_
    · rintro i x σ H2 H3 hi ⟨s2, ⟨a, b, c, d, rfl⟩, hd⟩ ⟨rfl, hxi⟩
      obtain ⟨l, hl, rx⟩ := rl.get hxi
      have hlm : l ∈ lts top o := List.mem_of_getElem? hl
      have hln := hlt l hlm
      have s02 := s1.trans s2
      have rx2 := tm_lot.same s2 rx
      refine r_if (gt_use (b := !decide (res (el l) T = res (el l) G)) (gt_test (gv_imp (gv_neD (da := dO nm (res (el l) T)) (db := dO nm (res (el l) G)) (Ra := fun H r => OTr nm H r (res (el l) T)) (Rb := fun H r => OTr nm H r (res (el l) G)) (gv_call2 (gv_var (R := fun H r => TrV nm H r T) rfl (tm_tr.same s02 hv)) (fun H3 s3 => gv_var (R := fun H r => LotV nm H r l) rfl (tm_lot.same s3 rx2)) fun x y H3 H4 s3 rx s4 ry => ⟨(T, l), ⟨x, y, rfl, tm_tr.same s4 rx, (lot_tup.mp ry).sq.q, hw, hln, h9⟩, fun r H5 s5 z => z⟩)
          (fun H3 s3 => gv_call2 (gv_var (R := fun H r => TrV nm H r G) rfl (tm_tr.same (s02.trans s3) hv')) (fun H4 s4 => gv_var (R := fun H r => LotV nm H r l) rfl (tm_lot.same (s3.trans s4) rx2)) fun x y H3 H4 s3 rx s4 ry => ⟨(G, l), ⟨x, y, rfl, tm_tr.same s4 rx, (lot_tup.mp ry).sq.q, hw', hln, h9'⟩, fun r H5 s5 z => z⟩)
          (fun x y H3 H4 s3 rx s4 ry => ⟨dp_otr (tm_otr.same s4 rx), dp_otr ry⟩) (sh_dO N fun t' e => hw.res e) (sh_dO N fun t' e => hw'.res e)) fun r H3 _ e => ?_)) fun H4 s4 => ?_)
      · rw [e, eqv_dO N (fun t' e => hw.res e) (fun t' e => hw'.res e)]
      · by_cases he : res (el l) T = res (el l) G
        · rw [decide_eq_true he]
          refine iteF (r_next ⟨s2.trans s4, ⟨_, _, _, _, rfl⟩, fun l' hl' => ?_⟩)
          have tk : (lts top o).take (i + 1) = (lts top o).take i ++ [l] := by rw [List.take_add_one, hl]; rfl
          rw [tk] at hl'
          rcases List.mem_append.mp hl' with h1 | h1
          · exact hd l' h1
          · rw [List.mem_singleton.mp h1]; exact he
        · rw [decide_eq_false he]
          refine iteT (r_ret (r_c (q _ _ (s02.trans s4) ?_)))
          exact congrArg V.bl (decide_eq_false fun z => he ((hS.mp z).1 l hlm)).symm
    · rintro σ H2 ⟨s2, ⟨a, b, c, d, rfl⟩, hd⟩
      rw [List.take_of_length_le (by omega)] at hd
      have s02 := s1.trans s2
      refine r_seq (r_forT (gv_use (gv_pair (a := T) (b := G) tm_tr (tm_tr (nm := nm)) (gv_var (R := fun H r => TrV nm H r T) rfl (tm_tr.same s02 hv)) fun H3 s3 => gv_var (R := fun H r => TrV nm H r G) rfl (tm_tr.same (s02.trans s3) hv')) fun pv H3 s3 ⟨pp, x1, x2, e, hpp, rx1, rx2⟩ => ⟨pp, e, ⟨_, SqT.of hpp⟩, ?_⟩))
      have rP : P2 (TrV nm H3) [x1, x2] [T, G] := .cons rx1 (.cons rx2 .nil)
      have s03 := s02.trans s3
      refine for_it (walk_tup (K := K) (a := pp) (xs := [x1, x2])) (fun i σ H' => Same H3 H' ∧ (∃ a b c d, σ = [some v, some v', some u, some ov, a, b, c, d]) ∧ ∀ t ∈ [T, G].take i, Apart t top o) ⟨Same.refl _, ⟨_, _, _, _, rfl⟩, fun l h => by simp at h⟩ (fun i σ H' _ p => same_t p.1 (SqT.of hpp)) ?_ ?_
      · rintro i x σ H4 H5 hi ⟨s4, ⟨a, b, c, d, rfl⟩, hap⟩ ⟨rfl, hxi⟩
        obtain ⟨t, ht, rt⟩ := rP.get hxi
        have htm : t ∈ [T, G] := List.mem_of_getElem? ht
        have hwt : Wf n t ∧ t.sz ≤ 9 ∧ LotsOk n t top o := by
          simp only [List.mem_cons, List.not_mem_nil, or_false] at htm
          rcases htm with rfl | rfl
          · exact ⟨hw, h9, hO⟩
          · exact ⟨hw', h9', hO'⟩
        obtain ⟨wt, ht9, hOt⟩ := hwt
        have s04 := s03.trans s4
        refine r_seq (r_asg (gv_use (gv_call1 (R := fun H1 r => ∃ L, Nodes t L ∧ LstV (LotV nm) H1 r L) (gv_var (R := fun H r => TrV nm H r t) rfl (tm_tr.same s4 rt)) fun x H1 s1 rx => ⟨t, ⟨x, rfl, rx, wt⟩, fun r H2 s2 ⟨L, hN, z⟩ => ⟨L, hN, z.l⟩⟩) fun nv H6 s6 ⟨L, hN, hL⟩ => ?_))
        have hLl := hN.len
        have s06 := s04.trans s6
        refine r_seq (r_asg (r_call3 (r_var rfl (r_var rfl (r_c ⟨(t, L, top, true), ⟨nv, u, rfl, hL, tm_lot.same s06 hu', wt, hN, Nat.le_trans hOt.tl.1 (by omega), hOt.tl.2, fun z => by cases z⟩, fun mv H7 s7 hmv => ?_⟩)))))
        have hfl := ways_fl_len (t := t) (L := L) 9 (by omega) o
        have hw0 : ways t top (o.take 0) L = wayF t top true L := by simp [ways]
        have s07 := s06.trans s7
        obtain ⟨po, os, eo, hpo, ro⟩ := (tm_tup tm_lot).same s07 ho
        have hos := ro.len
        refine r_seq (r_forT (r_var rfl ⟨po, eo, ⟨os, SqT.of hpo⟩, for_it (walk_tup (K := K) (a := po) (xs := os)) (fun j σ H' => Same H7 H' ∧ ∃ a m, σ = [some v, some v', some u, some ov, a, some x, some nv, some m] ∧ LstV (LotV nm) H' m (ways t top (o.take j) L)) ⟨Same.refl _, _, mv, rfl, by rw [hw0]; exact hmv.l⟩ (fun i σ H' _ p => same_t p.1 (SqT.of hpo)) ?_ ?_⟩))
        · rintro j x σ H8 H9 hj ⟨s8, a, m, rfl, hm⟩ ⟨rfl, hxj⟩
          obtain ⟨l, hl, rl2⟩ := ro.get hxj
          have hlm : l ∈ o := List.mem_of_getElem? hl
          have hcc := hOt.each l hlm
          have tk : o.take (j + 1) = o.take j ++ [l] := by rw [List.take_add_one, hl]; rfl
          have hwl := wayF_len (t := t) (L := L) (l := l) (b := false)
          have hwl2 : (ways t top (o.take j) L).length ≤ 9 + 9 * 5 := by
            have h1 := ways_fl_len (t := t) (L := L) 9 (by omega) (o.take j)
            have h2 := wayF_len (t := t) (L := L) (l := top) (b := true)
            have h3 : (o.take j).length ≤ 5 := by rw [List.length_take]; omega
            unfold ways
            rw [List.length_append]
            omega
          refine r_asg (gv_use (gv_catLs (as := ways t top (o.take j) L) (bs := wayF t l false L) (tm_lot (nm := nm)) (gv_var (R := fun H r => LstV (LotV nm) H r (ways t top (o.take j) L)) rfl hm) (fun H9 s9 Q' q' => r_call3 (r_var rfl (r_var rfl (r_c ⟨(t, L, l, false), ⟨nv, x, rfl, hL.same tm_lot ((s7.trans s8).trans s9), tm_lot.same (s8.trans s9) rl2, wt, hN, by show l.length ≤ 100; omega, fun y hy => wt.lt y (hcc.2.2 y hy), fun _ => ⟨hcc.1, hcc.2.2⟩⟩, fun r H4 s4 z => q' r H4 s4 z.l⟩)))) (by omega)) fun m2 H9 s9 hm2 => ⟨s8.trans s9, _, m2, rfl, ?_⟩)
          rw [tk, ways_snoc]
          exact hm2.l
        · rintro σ H8 ⟨s8, a, m, rfl, hm⟩
          rw [List.take_of_length_le (by omega)] at hm
          have s08 := s07.trans s8
          have lw : (ways t top o L).length < 64 := by
            have h2 := wayF_len (t := t) (L := L) (l := top) (b := true)
            unfold ways; rw [List.length_append]; omega
          have wne : ∀ l ∈ ways t top o L, l ≠ [] := fun l hl => by
            have : l ∈ L := by
              unfold ways at hl
              rcases List.mem_append.mp hl with h | h
              · exact wayF_sub l h
              · obtain ⟨m', hm', h⟩ := List.mem_flatten.mp h
                obtain ⟨l', _, rfl⟩ := List.mem_map.mp hm'
                exact wayF_sub l h
            obtain ⟨S, _, rfl⟩ := (hN.mem l).mp this
            exact nmS_ne S
          refine r_if (gt_use (b := !decide (Apart t top o)) (gt_test fun Q' q' => r_op (gv_use (R := fun _ r => ∃ bs : List (List Nat), bs.Nodup ∧ (∀ l, l ∈ bs ↔ l ∈ ways t top o L) ∧ r = .int (bs.length : Nat)) (fun Q2 q2 => r_b1 (gv_use (gv_sortSet N (fun W => W = ways t top o L) (gv_var (R := fun H r => ∃ as, as = ways t top o L ∧ SqV K (LotV nm) H r as) rfl ⟨_, rfl, hm.sq.q⟩) fun W e => by rw [e]; exact ⟨lw, fun l hl => ⟨wne l hl, ways_lt hN wt l hl⟩⟩) fun r H9 s9 ⟨W, bs, eW, h1, h2, _, hb⟩ => by
            obtain ⟨p, ys, er, hp, hl⟩ := hb.l.lens (K := K)
            exact ⟨p, ys, by rw [er], hp, q2 _ _ s9 ⟨bs, h1, fun l => by rw [← eW]; exact h2 l, by rw [hl]⟩⟩)) fun r H9 s9 ⟨bs, h1, h2, er⟩ => gv_use (gv_len (n := (ways t top o L).length) (gv_var rfl ((hm.same tm_lot s9).lens (K := K)))) fun y H10 s10 ey => ⟨by rw [er, ey]; rfl, q' _ _ (s9.trans s10) ?_⟩)) fun H9 s9 => ?_)
          rotate_left
          · rw [er, ey]
            have e1 : decide (V.int (bs.length : Nat) = V.int ((ways t top o L).length : Nat)) = decide (Apart t top o) := decide_eq_decide.mpr (by
              rw [← ways_apart wt.ok hN (top := top) (o := o) fun l hl => ⟨(hOt.each l hl).1, (hOt.each l hl).2.2⟩, ← nodup_len h1 h2]
              constructor
              · intro e
                have := V.int.inj e
                omega
              · intro e; rw [e])
            rw [e1]
          · by_cases ha : Apart t top o
            · rw [decide_eq_true ha]
              refine iteF (r_next ⟨(((s4.trans s6).trans s7).trans s8).trans s9, ⟨_, _, _, _, rfl⟩, fun t' ht' => ?_⟩)
              have tk : [T, G].take (i + 1) = [T, G].take i ++ [t] := by rw [List.take_add_one, ht]; rfl
              rw [tk] at ht'
              rcases List.mem_append.mp ht' with h1 | h1
              · exact hap t' h1
              · rw [List.mem_singleton.mp h1]; exact ha
            · rw [decide_eq_false ha]
              refine iteT ?_
              dsimp only
              refine r_ret ?_
              refine r_c (q _ _ (s08.trans s9) ?_)
              refine congrArg V.bl (decide_eq_false fun z => ?_).symm
              have h3 := (hS.mp z).2
              simp only [List.mem_cons, List.not_mem_nil, or_false] at htm
              rcases htm with rfl | rfl
              · exact ha h3.1
              · exact ha h3.2
      · rintro σ H4 ⟨s4, ⟨a, b, c, d, rfl⟩, hap⟩
        dsimp only
        refine r_ret ?_
        refine r_c (q _ _ (s03.trans s4) ?_)
        exact congrArg V.bl (decide_eq_true (hS.mpr ⟨hd, hap T (by simp), hap G (by simp)⟩)).symm
end
end Jw
end

section
set_option Elab.async false
set_option linter.all false
set_option maxRecDepth 100000
set_option maxHeartbeats 4000000
/-! The law's own defs: put, moved, moves. -/
namespace Jt
open Jt.Tr
/-- what becomes of the two parts of a fork -/
theorem put_parts {P S a b t' : Tr} (h : Put P S (fk a b) t') (hok : (fk a b).ok) (hS : S.ok) (hd : Disj (fk a b) S) (hne : P ≠ fk a b) : ∃ e : Tr → Tr, (∀ c, c = a ∨ c = b → (Put P S c (e c) ∧ ∀ x ∈ P.nm, x ∈ c.nm) ∨ (e c = c ∧ ∀ x ∈ P.nm, x ∉ c.nm)) ∧ t' = mk (e a) (e b) ∧ Disj (e a) (e b) := by
  have hab := ok_disj hok
  have hneab : a ≠ b := fun e => hab _ (fst_mem a) (e ▸ fst_mem a)
  cases h with
  | here => exact (hne rfl).elim
  | @left a a' b g =>
    refine ⟨fun c => if c = a then a' else c, fun c hc => ?_, by dsimp only; rw [if_pos rfl, if_neg (Ne.symm hneab)], by dsimp only; rw [if_pos rfl, if_neg (Ne.symm hneab)]; exact g.dl hok hd⟩
    rcases hc with rfl | rfl
    · exact .inl ⟨by dsimp only; rw [if_pos rfl]; exact g, sub_nm g.sub⟩
    · exact .inr ⟨if_neg (Ne.symm hneab), fun x hx k => hab x (sub_nm g.sub x hx) k⟩
  | @right a b b' g =>
    refine ⟨fun c => if c = b then b' else c, fun c hc => ?_, by dsimp only; rw [if_pos rfl, if_neg hneab], by dsimp only; rw [if_pos rfl, if_neg hneab]; exact g.dr hok hd⟩
    rcases hc with rfl | rfl
    · exact .inr ⟨if_neg hneab, fun x hx k => hab x k (sub_nm g.sub x hx)⟩
    · exact .inl ⟨by dsimp only; rw [if_pos rfl]; exact g, sub_nm g.sub⟩
end Jt
namespace Jw
open PySem PySem.Spec PyProof.Rows L2 Jt JH
section
variable {P : Program} {w : World} {K : PySem.W.Frag} {mg : Str → Option Value} {base : Heap} {f : Addr} {fd : FuncData} {nm : Nat → Str} {n : Nat}
/-! ### _law_put -/
/-- a name of a lot, by its place, in a lot -/
theorem gt_inT (N : Nm nm n) {te : TE} {j : Nat} {σ : L2.St} {H : Hp} {x : Nat} {v : V} {l : List Nat} (h : Gv te σ H fun _ r => r = sv nm x) (hj : σ[j]? = some (some v)) (hl : LotV nm H v l) (hx : x < n) (hln : ∀ y ∈ l, y < n) : Gt (tTest (tOp (rIn K false) te (tVar j))) σ H (decide (x ∈ l)) :=
  gt_test fun Q' q' => r_op (gv_use h fun r H1 s1 e => r_var hj (by
    obtain ⟨a, e1, ha⟩ := tm_lot.same s1 hl
    refine ⟨a, _, e1, .inr (SqT.of ha), by rw [e]; rfl, flat_svs, ?_⟩
    rw [e, if_neg Bool.false_ne_true, inV_sv N hx hln]
    exact q' _ _ s1 rfl))
theorem sc__law_put : FnScope ["_law_tree_here", "_law_place", "_law_part", "_law_found", "_law_one", "_law_mine"] ["_law_tree_here", "_law_place", "_law_part"] (defScope s_lawput) := ⟨rfl, rfl, rfl, by decide +kernel, rfl, by decide +kernel, by decide +kernel⟩
theorem st__law_put (F : FnD K "_law_put" s_lawput f fd) (B : Bi mg) (N : Nm nm n) (c__law_below : Cal P w K mg base 1 "_law_below" ["_law_tree_here"] (spNamesIn nm n)) (c__law_fork : Cal P w K mg base 2 "_law_fork" ["_law_parts"] (spFork nm n)) {k h : Nat} (hk : 2 ≤ k)
    (ih : Cal P w K mg base k "_law_put" ["_law_tree_here", "_law_place", "_law_part"] (spPut nm n h)) : FnOk P w K mg base CX0 (k + 1) f fd ["_law_tree_here", "_law_place", "_law_part"] (spPut nm n (h + 1)) := by
  refine F.ok sc__law_put (fun vs H Q E h => ?_) (fun cdv A outer s H vs Q E hr h => ?_)
  · obtain ⟨t, ⟨v, u, y, rfl, _⟩, _⟩ := h; rfl
  · obtain ⟨⟨t, P0, S, t'⟩, ⟨v, u, y, rfl, hv, hl, hy, hw, hS, hd, hp, hs⟩, q⟩ := h
    simp only at hv hl hy hw hS hd hp hs
    have hu := hr.units
    refine ⟨_, PSs.nox (pss_cons (ps_if (pt_cmpR (eqD K hu) (pe_cal c__law_below (hr.mono (by first | decide | omega)) (pa_cons (pv 0) pa_nil)) (pv 1) (by rfl)) (pss_one (ps_ret (pe_cal c__law_fork (hr.mono (by first | decide | omega)) (pa_cons (pe_lst (pa_cons (pv 0) (pa_cons (pv 2) pa_nil))) pa_nil)))) pss_nil)
      (pss_cons (ps_set (i := 3) sc__law_put.nd rfl (by first | exact Or.inl rfl | exact Or.inr rfl) (pe_lst pa_nil))
      (pss_cons (ps_for PassesOwn.never rfl (piT K (pv 0)) (pg_name (i := 4) sc__law_put.nd rfl (by first | exact Or.inl rfl | exact Or.inr rfl)) (pss_cons (ps_set (i := 5) sc__law_put.nd rfl (by first | exact Or.inl rfl | exact Or.inr rfl) (pe_cal c__law_below (hr.mono (by first | decide | omega)) (pa_cons (pv 4) pa_nil)))
      (pss_one (ps_expr (pe_bm PySem.F.plainAttrs_list PySem.F.slot_list_append PySem.F.type_list_append mt_append (pv 3) (pa_cons (pe_ifExp ((pw_and (pt_cmpR (inS K) (pe_ix (ixT K) (pv 1) (pe_int) (fun _ _ => rfl)) (pv 5) (by rfl)) (pw_and1 (pt_cmpR (inS K) (pe_ix (ixT K) (pv 1) (pe_un un_neg (pe_int)) (fun _ _ => rfl)) (pv 5) (by rfl)))).pt) (pe_cal ih (hr.mono (by first | decide | omega)) (pa_cons (pv 4) (pa_cons (pv 1) (pa_cons (pv 2) pa_nil)))) (pv 4)) pa_nil))))))
      (pss_one (ps_ret (pe_cal c__law_fork (hr.mono (by first | decide | omega)) (pa_cons (pv 3) pa_nil))))))), ?_⟩
    have hsl : (100000 : Nat) ≤ sizeLine := by decide
    have hPs := hp.sub
    have hPn : ∀ x ∈ nmS P0, x < n := fun x hx => hw.lt x (sub_nm hPs x (mem_nmS.mp hx))
    have hfw := N.few
    refine r_seq (r_if (gt_use (b := decide (nmS t = nmS P0)) (gt_test (gv_imp (gv_eqD (da := dL nm (nmS t)) (db := dL nm (nmS P0)) (Ra := fun H r => LotV nm H r (nmS t)) (Rb := fun H r => LotV nm H r (nmS P0)) (gv_call1 (gv_var rfl hv) fun x H1 s1 rx => ⟨t, ⟨x, rfl, rx, hw⟩, fun r H2 s2 z => z⟩) (fun H1 s1 => gv_var rfl (tm_lot.same s1 hl)) (fun x y H2 H3 s2 rx s3 ry => ⟨dp_lot (tm_lot.same s3 rx), dp_lot ry⟩) (sh_dL N fun x hx => hw.lt x (mem_nmS.mp hx)) (sh_dL N hPn)) fun r H2 _ e => ?_)) fun H1 s1 => ?_))
    · rw [e]
      exact congrArg V.bl (bool_iff (eqv_dL N (fun x hx => hw.lt x (mem_nmS.mp hx)) hPn))
    · by_cases htP : t = P0
      · subst htP
        have : t' = mk t S := hp.det hw.ok .here
        subst this
        rw [decide_eq_true rfl]
        refine iteT (r_ret (gv_use (gv_call1 (gv_list2 tm_tr (gv_var (R := fun H r => TrV nm H r t) rfl (tm_tr.same s1 hv)) fun H2 s2 => gv_var (R := fun H r => TrV nm H r S) rfl (tm_tr.same (s1.trans s2) hy)) fun z H2 s2 rz => ⟨[t, S], ⟨z, rfl, rz.l, fun a ha => ?_, .inr ⟨t, S, rfl, hd.fst_ne⟩⟩, fun r H3 s3 z => z⟩) fun r H2 s2 ⟨t1, e, z⟩ => q _ _ (s1.trans s2) ?_))
        · rcases List.mem_cons.mp ha with rfl | ha
          · exact hw
          · rw [List.mem_singleton.mp ha]; exact hS
        · cases e; exact z
      · have hne : nmS t ≠ nmS P0 := fun e => htP (nmS_inj hw.ok (self_sub _) hPs e)
        rw [decide_eq_false hne]
        refine iteF (r_next ?_)
        cases hv with
        | lf i =>
          cases hp
          exact (htP rfl).elim
        | @fk p y1 y2 a b e0 h1 h2 =>
          have hv : TrV nm H (.ref p) (.fk a b) := .fk e0 h1 h2
          obtain ⟨e, he, rfl, hde⟩ := put_parts hp hw.ok hS.ok hd (Ne.symm htP)
          simp only [Tr.sz] at hs
          have hc2 : ∀ c, c = a ∨ c = b → Wf n c ∧ c.sz ≤ h ∧ Disj c S := fun c hc => by
            rcases hc with rfl | rfl
            · exact ⟨hw.l, by omega, hd.l⟩
            · exact ⟨hw.r, by omega, hd.r⟩
          have hwe : ∀ c, c = a ∨ c = b → Wf n (e c) := fun c hc => by
            obtain ⟨wc, _, dc⟩ := hc2 c hc
            rcases he c hc with ⟨g, _⟩ | ⟨g, _⟩
            · exact ⟨g.ok wc.ok hS.ok dc, fun x hx => ((g.mem x).mp hx).elim (wc.lt x) (hS.lt x)⟩
            · rw [g]; exact wc
          refine r_seq (r_asg (r_nilL fun D hD => ?_))
          have sD : Same H1 (upd H1 D (.lst [])) := same_new hD _
          have hDH : H D = none := s1.free hD
          have rP : P2 (TrV nm H) [y1, y2] [a, b] := .cons h1 (.cons h2 .nil)
          refine r_seq (r_forT (r_var rfl ⟨p, rfl, ⟨_, SqT.of ((s1.trans sD) _ _ e0)⟩, for_it (walk_tup (K := K) (a := p) (xs := [y1, y2])) (fun i σ H' => Same H H' ∧ (∃ a1 b1, σ = [some (.ref p), some u, some y, some (.ref D), a1, b1]) ∧ ∃ ys, H' D = some (.lst ys) ∧ P2 (TrV nm H') ys (([a, b].take i).map e)) ⟨s1.trans sD, ⟨none, none, rfl⟩, [], upd_same, .nil⟩ (fun i σ H' _ p => same_t p.1 (SqT.of e0)) ?_ ?_⟩))
          · rintro i x σ H2 H3 hi ⟨s2, ⟨a1, b1, rfl⟩, ys, hys, rys⟩ ⟨rfl, hxi⟩
            obtain ⟨c, hci, rx⟩ := rP.get hxi
            have hcm : c = a ∨ c = b := by
              have := List.mem_of_getElem? hci
              simpa using this
            obtain ⟨wc, hcs, dc⟩ := hc2 c hcm
            have rx2 := tm_tr.same s2 rx
            refine r_seq (r_asg (gv_use (gv_call1 (R := fun H r => LotV nm H r (nmS c)) (gv_var (R := fun H r => TrV nm H r c) rfl rx2) fun x H1 s1 rx => ⟨c, ⟨x, rfl, rx, wc⟩, fun r H2 s2 z => z⟩) fun mv H3 s3 hmv => ?_))
            have s03 := s2.trans s3
            obtain ⟨pu, rfl, hpu⟩ := tm_lot.same s03 hl
            have hlc : ∀ z ∈ nmS c, z < n := fun z hz => wc.lt z (mem_nmS.mp hz)
            have ylen := rys.len
            have hyl : ys.length ≤ 2 := by rw [ylen, List.length_map, List.length_take]; exact Nat.min_le_right _ _
            obtain ⟨x0, l1, e1⟩ : ∃ x0 l1, nmS P0 = x0 :: l1 := by
              cases h : nmS P0 with
              | nil => exact (nmS_ne P0 h).elim
              | cons x l => exact ⟨x, l, rfl⟩
            obtain ⟨l2, xl, e2⟩ : ∃ l2 xl, nmS P0 = l2 ++ [xl] := by
              rcases nil_or_snoc (nmS P0) with h | h
              · exact (nmS_ne P0 h).elim
              · exact h
            have hx0 : x0 ∈ P0.nm := mem_nmS.mp (by rw [e1]; exact List.mem_cons_self)
            have hxl : xl ∈ P0.nm := mem_nmS.mp (by rw [e2]; simp)
            have g0 : ∀ {H4 : Hp} {σ : L2.St}, Same H3 H4 → σ[1]? = some (some (V.ref pu)) → Gv (tOp (rIxT K) (tVar 1) (tC (.int 0))) σ H4 fun _ r => r = sv nm x0 := fun s4 h1 Q' q' =>
              r_op (r_var h1 (r_c ⟨pu, _, _, sv nm x0, rfl, rfl, SqT.of (s4 _ _ hpu), by rw [e1]; exact atI_nat (j := 0) rfl, q' _ _ (Same.refl _) rfl⟩))
            have gl : ∀ {H4 : Hp} {σ : L2.St}, Same H3 H4 → σ[1]? = some (some (V.ref pu)) → Gv (tOp (rIxT K) (tVar 1) (tUn (rU fun i => .int (-i)) (tC (.int 1)))) σ H4 fun _ r => r = sv nm xl := fun s4 h1 Q' q' =>
              r_op (r_var h1 ⟨1, rfl, pu, _, _, sv nm xl, rfl, rfl, SqT.of (s4 _ _ hpu), by rw [e2, List.map_append]; exact atI_last _ _, q' _ _ (Same.refl _) rfl⟩)
            have hx0n := hPn x0 (mem_nmS.mpr hx0)
            have hxln := hPn xl (mem_nmS.mpr hxl)
            have tk : [a, b].take (i + 1) = [a, b].take i ++ [c] := by rw [List.take_add_one, hci]; rfl
            refine r_append (p := D) (Ry := fun H r => TrV nm H r (e c)) rfl (s3 _ _ hys) (by omega) (fun Q' q' => r_ifE (gt_use (b := decide (x0 ∈ nmS c) && decide (xl ∈ nmS c)) (gt_and2 (gt_inT N (g0 (Same.refl _) rfl) rfl hmv hx0n hlc) fun _ H4 s4 => gt_inT N (gl s4 rfl) rfl (tm_lot.same s4 hmv) hxln hlc) fun H4 s4 => ?_)) fun y5 H5 s5 ry => ?_
            · rcases he c hcm with ⟨g, hin⟩ | ⟨g, hout⟩
              · rw [decide_eq_true (mem_nmS.mpr (hin x0 hx0)), decide_eq_true (mem_nmS.mpr (hin xl hxl))]
                have s04 := s03.trans s4
                exact iteT (gv_use (gv_call3 (R := fun H r => TrV nm H r (e c)) (gv_var (R := fun H r => TrV nm H r c) rfl (tm_tr.same (s3.trans s4) rx2)) (fun H5 s5 => gv_var (R := fun H r => LotV nm H r (nmS P0)) rfl ⟨pu, rfl, (s4.trans s5) _ _ hpu⟩) (fun H5 s5 => gv_var (R := fun H r => TrV nm H r S) rfl (tm_tr.same (s04.trans s5) hy)) fun x y z H5 H6 H7 s5 rx s6 ry s7 rz => ⟨(c, P0, S, e c), ⟨x, y, z, rfl, tm_tr.same (s6.trans s7) rx, tm_lot.same s7 ry, rz, wc, hS, dc, g, hcs⟩, fun r H6 s6 z => z⟩) fun r H5 s5 z => q' _ _ (s4.trans s5) z)
              · rw [decide_eq_false (fun z => hout x0 hx0 (mem_nmS.mp z))]
                refine iteF (r_var rfl (q' _ _ s4 ?_))
                rw [g]
                exact tm_tr.same (s3.trans s4) rx2
            · have hD5 := (s3.trans s5) _ _ hys
              refine ⟨same_mut (s03.trans s5) hDH, ⟨_, _, rfl⟩, ys ++ [y5], upd_same, ?_⟩
              rw [tk, List.map_append]
              exact (rys.imp fun _ _ k => tm_tr _ _ _ _ (tups_lst hD5) (tm_tr.same (s3.trans s5) k)).app (.cons (tm_tr _ _ _ _ (tups_lst hD5) ry) .nil)
          · rintro σ H2 ⟨s2, ⟨a1, b1, rfl⟩, ys, hys, rys⟩
            refine r_ret (gv_use (gv_call1 (gv_var (R := fun H r => LstV (TrV nm) H r [e a, e b]) rfl ⟨D, ys, rfl, hys, rys⟩) fun z H3 s3 rz => ⟨[e a, e b], ⟨z, rfl, rz, fun c hc => ?_, .inr ⟨e a, e b, rfl, hde.fst_ne⟩⟩, fun r H4 s4 z => z⟩) fun r H3 s3 ⟨t1, e1, z⟩ => q _ _ (s2.trans s3) ?_)
            · simp only [List.mem_cons, List.not_mem_nil, or_false] at hc
              rcases hc with rfl | rfl
              · exact hwe a (.inl rfl)
              · exact hwe b (.inr rfl)
            · cases e1; exact z
theorem ok__law_put (F : FnD K "_law_put" s_lawput f fd) (B : Bi mg) (N : Nm nm n) (c__law_below : Cal P w K mg base 1 "_law_below" ["_law_tree_here"] (spNamesIn nm n)) (c__law_fork : Cal P w K mg base 2 "_law_fork" ["_law_parts"] (spFork nm n)) (m : mg "_law_put" = some (.ref f)) : ∀ h, FnOk P w K mg base CX0 (h + 2) f fd ["_law_tree_here", "_law_place", "_law_part"] (spPut nm n h)
  | 0 => ⟨fun vs H Q E ⟨t, ⟨v, u, y, e, _⟩, _⟩ => by rw [e]; rfl, fun _ _ _ _ _ _ _ _ _ _ _ _ _ ⟨t, ⟨_, _, _, _, _, _, _, _, _, _, _, h⟩, _⟩ => absurd h (by have := sz_pos t.1; omega)⟩
  | h + 1 => st__law_put F B N c__law_below c__law_fork (by omega) (cal_mk F (ok__law_put F B N c__law_below c__law_fork m h) m (bd3 fun _ _ _ _ _ _ _ _ _ => by first | rfl | kernel_rfl))
/-! ### _law_moved -/
def spLawMoved (nm : Nat → Str) (n : Nat) : Sp := Pur (ι := Tr × Tr × Tr × Tr × Tr) (fun i vs H => ∃ v u x, vs = [v, u, x] ∧ TrV nm H v i.1 ∧ LotV nm H u (nmS i.2.1) ∧ LotV nm H x (nmS i.2.2.2.1) ∧ Wf n i.1 ∧ Mv i.2.1 i.2.2.1 i.2.2.2.1 i.1 i.2.2.2.2) (fun i _ H r => TrV nm H r i.2.2.2.2)
/-- [name for name in the tree's names if name not in lot] -/
theorem gv_left (N : Nm nm n) {tl : TE} {vs : List Nat} {σ : L2.St} {H : Hp} {j i : Nat} {T : Tr} {l : List Nat} {lv : V} (hw : Wf n T) (hl : LotV nm H lv l) (hln : ∀ x ∈ l, x < n) (ht : Gv tl σ H fun H1 v => LotV nm H1 v (nmS T)) (hwp : ∀ x, wipe ((wipe σ vs).set j (some x)) vs = wipe σ vs)
    (hi : ∀ x, ((wipe σ vs).set j (some x))[i]? = some (some lv)) (hj : ∀ x, ((wipe σ vs).set j (some x))[j]? = some (some x)) : Gv (tLc (iTup K tl) (gName j) (tTest (tOp (rIn K true) (tVar j) (tVar i))) (tVar j) vs) σ H fun H1 v => LstN (NmV nm) H H1 v (lft T l) := by
  have hls := hw.lenS
  have hfw := N.few
  refine gv_imp (gv_lcT (fun x => decide (x ∉ l)) id (fun as => as = nmS T) (tm_nm (nm := nm)) (tm_nm (nm := nm)) (gv_imp ht fun r H1 s1 z => ⟨_, rfl, (lot_tup.mp z).sq⟩) (fun _ e => by rw [e]; omega) hwp ?_ ?_) fun r H1 s1 ⟨as, e, z⟩ => by rw [e, List.map_id] at z; exact z
  · rintro _ x c H2 rfl hc s2 rx
    refine gt_test fun Q' q' => ?_
    obtain ⟨a, e1, ha⟩ := tm_lot.same s2 hl
    have hx := hj x
    rw [show x = sv nm c from rx] at hx ⊢
    refine r_op (r_var hx (r_var (hi _) ⟨a, _, e1, .inr (SqT.of ha), rfl, flat_svs, ?_⟩))
    rw [if_pos rfl, inV_sv N (hw.lt c (mem_nmS.mp hc)) hln]
    exact q' _ _ (Same.refl _) (congrArg V.bl (by simp))
  · rintro _ x c H2 rfl hc s2 rx _
    exact gv_var (hj x) rx
theorem sc__law_moved : FnScope ["_law_tree_here", "_law_lot", "_law_place", "_law_left", "_law_name"] ["_law_tree_here", "_law_lot", "_law_place"] (defScope s_lawmoved) := ⟨rfl, rfl, rfl, by decide +kernel, rfl, by decide +kernel, by decide +kernel⟩
theorem ok__law_moved (F : FnD K "_law_moved" s_lawmoved f fd) (B : Bi mg) (N : Nm nm n) (c__law_below : Cal P w K mg base 1 "_law_below" ["_law_tree_here"] (spNamesIn nm n)) (c__law_to : Cal P w K mg base 11 "_law_to" ["_law_tree_here", "_law_names_here"] (spLawTo K nm n 9)) (c__law_put : Cal P w K mg base 11 "_law_put" ["_law_tree_here", "_law_place", "_law_part"] (spPut nm n 9)) :
    FnOk P w K mg base CX0 12 f fd ["_law_tree_here", "_law_lot", "_law_place"] (spLawMoved nm n) := by
  refine F.ok sc__law_moved (fun vs H Q E h => ?_) (fun cdv A outer s H vs Q E hr h => ?_)
  · obtain ⟨t, ⟨v, u, x, rfl, _⟩, _⟩ := h; rfl
  · obtain ⟨⟨T, S, R, P0, T'⟩, ⟨v, u, y, rfl, hv, hx, hy, hw, hm⟩, q⟩ := h
    simp only at hv hx hy hw hm
    refine ⟨_, PSs.nox (pss_cons (ps_setLc (own := [("_law_name", 4)]) (i := 3) rfl sc__law_moved.nd rfl rfl (sw_true rfl rfl rfl (by decide +kernel)) (piT K (pe_cal c__law_below (hr.mono (by first | decide | omega)) (pa_cons (pv 0) pa_nil))) (blkOk_by (N := ["_law_tree_here", "_law_lot", "_law_place", "_law_left", "_law_name"]) (sc := defScope s_lawmoved) (by decide +kernel)) (fun _ _ _ _ _ => (pg_name (i := 4) sc__law_moved.nd rfl (by first | exact Or.inl rfl | exact Or.inr rfl))) (fun _ _ _ _ _ => pts_one (pt_cmpR (niS K) (pv 4) (pv 1) (by rfl))) (fun _ _ _ _ _ => (pv 4)))
      (pss_one (ps_ret (pe_cal c__law_put (hr.mono (by first | decide | omega)) (pa_cons (pe_cal c__law_to (hr.mono (by first | decide | omega)) (pa_cons (pv 0) (pa_cons (pv 3) pa_nil))) (pa_cons (pv 2) (pa_cons (pe_cal c__law_to (hr.mono (by first | decide | omega)) (pa_cons (pv 0) (pa_cons (pv 1) pa_nil))) pa_nil))))))), ?_⟩
    have hfw := N.few
    have wR := hw.rest hm
    have wS := hw.sub hm.sub
    have lS : ∀ z ∈ nmS S, z < n := fun z hz => wS.lt z (mem_nmS.mp hz)
    have lR : ∀ z ∈ nmS R, z < n := fun z hz => wR.lt z (mem_nmS.mp hz)
    refine r_seq (r_asg (gv_use (gv_left N hw hx lS (gv_call1 (gv_var (R := fun H r => TrV nm H r T) rfl hv) fun x H1 s1 rx => ⟨T, ⟨x, rfl, rx, hw⟩, fun r H2 s2 z => z⟩) (fun _ => rfl) (fun _ => rfl) (fun _ => rfl)) fun lv H1 s1 hl => ?_))
    rw [lft_rest hm.rest'] at hl
    refine r_ret (gv_use (gv_call3 (R := fun H r => TrV nm H r T') (gv_call2 (R := fun H r => TrV nm H r R) (gv_var (R := fun H r => TrV nm H r T) rfl (tm_tr.same s1 hv)) (fun H3 s3 => gv_var (R := fun H r => LstV (NmV nm) H r (nmS R)) rfl (hl.l.same tm_nm s3)) fun x y H1 H2 s1 rx s2 ry => ⟨(T, nmS R), ⟨x, y, rfl, tm_tr.same s2 rx, ry.sq.q, hw, lR, hw.sz hfw⟩, fun r H3 s3 z => ?_⟩)
      (fun H2 s2 => gv_var (R := fun H r => LotV nm H r (nmS P0)) rfl (tm_lot.same (s1.trans s2) hy))
      (fun H2 s2 => gv_call2 (R := fun H r => TrV nm H r S) (gv_var (R := fun H r => TrV nm H r T) rfl (tm_tr.same (s1.trans s2) hv)) (fun H3 s3 => gv_var (R := fun H r => LotV nm H r (nmS S)) rfl (tm_lot.same ((s1.trans s2).trans s3) hx)) fun x y H1 H2 s1 rx s2 ry => ⟨(T, nmS S), ⟨x, y, rfl, tm_tr.same s2 rx, (lot_tup.mp ry).sq.q, hw, lS, hw.sz hfw⟩, fun r H3 s3 z => ?_⟩)
      fun x y z H1 H2 H3 s1 rx s2 ry s3 rz => ⟨(R, P0, S, T'), ⟨x, y, z, rfl, tm_tr.same (s2.trans s3) rx, tm_lot.same s3 ry, rz, wR, wS, hm.disj, hm.put, wR.sz N.few⟩, fun r H4 s4 z => z⟩) fun r H2 s2 z => q _ _ (s1.trans s2) z)
    · have : OTr nm H3 r (res (el (nmS R)) T) := z
      rw [← lft_rest hm.rest', res_lft hm.rest'] at this
      exact this
    · have : OTr nm H3 r (res (el (nmS S)) T) := z
      rw [res_part hw.ok hm.sub] at this
      exact this
/-! ### _law_moves -/
def MvsR (nm : Nat → Str) (T : Tr) (H0 : Hp) (D : Addr) (H : Hp) (v : V) (S : Tr) : Prop := ∃ R L p x q ys, res (fun x => decide (x ∉ S.nm)) T = some R ∧ Nodes R L ∧ H0 q = none ∧ v = .ref p ∧ H p = some (.tup [x, .ref q]) ∧ LotV nm H x (nmS S) ∧ q ≠ D ∧ H q = some (.lst ys) ∧ P2 (LotV nm H) ys L
theorem dm_mvs {T : Tr} {H0 : Hp} : DM (MvsR nm T H0) where
  sm := fun D H H' v b s ⟨R, L, p, x, q, ys, e1, e2, e0, e, h1, h2, h3, h4, h5⟩ => ⟨R, L, p, x, q, ys, e1, e2, e0, e, s _ _ h1, tm_lot.same s h2, h3, s _ _ h4, h5.imp fun _ _ k => tm_lot.same s k⟩
  up := fun D H zs u v b hD ⟨R, L, p, x, q, ys, e1, e2, e0, e, h1, h2, h3, h4, h5⟩ => ⟨R, L, p, x, q, ys, e1, e2, e0, e, by rw [upd_ne (fun z => by rw [z, hD] at h1; cases h1)]; exact h1, tm_lot _ _ _ _ (tups_lst hD) h2, h3, by rw [upd_ne h3]; exact h4, h5.imp fun _ _ k => tm_lot _ _ _ _ (tups_lst hD) k⟩
def spLawMoves (nm : Nat → Str) (n : Nat) : Sp := Pur (ι := Tr) (fun t vs H => ∃ v, vs = [v] ∧ TrV nm H v t ∧ Wf n t) (fun t H0 H r => ∃ p xs Ss, r = .ref p ∧ H0 p = none ∧ H p = some (.lst xs) ∧ P2 (MvsR nm t H0 p H) xs Ss ∧ (∀ S, S ∈ Ss ↔ S ∈ t.subs ∧ S ≠ t) ∧ Ss.length ≤ 9)
theorem sc__law_moves : FnScope ["_law_tree_here", "_law_names_here", "_law_found", "_law_lot", "_law_name"] ["_law_tree_here"] (defScope s_lawmoves) := ⟨rfl, rfl, rfl, by decide +kernel, rfl, by decide +kernel, by decide +kernel⟩
theorem ok__law_moves (F : FnD K "_law_moves" s_lawmoves f fd) (B : Bi mg) (N : Nm nm n) (c__law_below : Cal P w K mg base 1 "_law_below" ["_law_tree_here"] (spNamesIn nm n)) (c__law_to : Cal P w K mg base 11 "_law_to" ["_law_tree_here", "_law_names_here"] (spLawTo K nm n 9)) (c__law_nodes : Cal P w K mg base 3 "_law_nodes" ["_law_tree_here"] (spNodesOf nm n)) :
    FnOk P w K mg base CX0 12 f fd ["_law_tree_here"] (spLawMoves nm n) := by
  refine F.ok sc__law_moves (fun vs H Q E h => ?_) (fun cdv A outer s H vs Q E hr h => ?_)
  · obtain ⟨t, ⟨v, rfl, _⟩, _⟩ := h; rfl
  · obtain ⟨t, ⟨v, rfl, hv, hw⟩, q⟩ := h
    refine ⟨_, PSs.nox (pss_cons (ps_set (i := 1) sc__law_moves.nd rfl (by first | exact Or.inl rfl | exact Or.inr rfl) (pe_cal c__law_below (hr.mono (by first | decide | omega)) (pa_cons (pv 0) pa_nil)))
      (pss_cons (ps_set (i := 2) sc__law_moves.nd rfl (by first | exact Or.inl rfl | exact Or.inr rfl) (pe_lst pa_nil))
      (pss_cons (ps_for PassesOwn.never rfl (piL K (pe_cal c__law_nodes (hr.mono (by first | decide | omega)) (pa_cons (pv 0) pa_nil))) (pg_name (i := 3) sc__law_moves.nd rfl (by first | exact Or.inl rfl | exact Or.inr rfl)) (pss_one (ps_if (pt_cmpR op_lt (pe_callB (lenQ K) (by rfl) B.len boot_len (pa_cons (pv 3) pa_nil)) (pe_callB (lenQ K) (by rfl) B.len boot_len (pa_cons (pv 1) pa_nil)) (by rfl)) (pss_one (ps_expr (pe_bm PySem.F.plainAttrs_list PySem.F.slot_list_append PySem.F.type_list_append mt_append (pv 2) (pa_cons (pe_tup (pa_cons (pv 3) (pa_cons (pe_cal c__law_nodes (hr.mono (by first | decide | omega)) (pa_cons (pe_cal c__law_to (hr.mono (by first | decide | omega)) (pa_cons (pv 0) (pa_cons (pe_lc (own := [("_law_name", 4)]) rfl sc__law_moves.nd (piT K (pv 1)) (blkOk_by (N := ["_law_tree_here", "_law_names_here", "_law_found", "_law_lot", "_law_name"]) (sc := defScope s_lawmoves) (by decide +kernel)) (fun _ _ _ _ _ => (pg_name (i := 4) sc__law_moves.nd rfl (by first | exact Or.inl rfl | exact Or.inr rfl))) (fun _ _ _ _ _ => pts_one (pt_cmpR (niS K) (pv 4) (pv 3) (by rfl))) (fun _ _ _ _ _ => (pv 4))) pa_nil))) pa_nil)) pa_nil))) pa_nil)))) pss_nil)))
      (pss_one (ps_ret (pv 2)))))), ?_⟩
    have hsl : (100000 : Nat) ≤ sizeLine := by decide
    have hfw := N.few
    have h9 := hw.sz hfw
    refine r_seq (r_asg (gv_use (gv_call1 (R := fun H r => LotV nm H r (nmS t)) (gv_var (R := fun H r => TrV nm H r t) rfl hv) fun x H1 s1 rx => ⟨t, ⟨x, rfl, rx, hw⟩, fun r H2 s2 z => z⟩) fun nv H1 s1 hnv => ?_))
    refine r_seq (r_asg (r_nilL fun D hD => ?_))
    have sD : Same H1 (upd H1 D (.lst [])) := same_new hD _
    have hDD : upd H1 D (.lst []) D = some (.lst []) := upd_same
    have hDH : H D = none := s1.free hD
    have s02 := s1.trans sD
    generalize upd H1 D (.lst []) = H2 at sD hDD s02 ⊢
    refine r_seq (r_forL (gv_use (gv_call1 (R := fun H3 r => ∃ L, Nodes t L ∧ LstN (LotV nm) H2 H3 r L) (gv_var (R := fun H r => TrV nm H r t) rfl (tm_tr.same s02 hv)) fun x H1 s1 rx => ⟨t, ⟨x, rfl, rx, hw⟩, fun r H2 s2 ⟨L, hN, z⟩ => ⟨L, hN, z.back s1⟩⟩) fun lv H3 s3 ⟨L, hN, pl, xs, el, fl, hpl, rl⟩ => ⟨pl, el, ⟨xs, SqL.of hpl⟩, ?_⟩))
    have hlD : pl ≠ D := fun z => by rw [z, hDD] at fl; cases fl
    have hLl := hN.len
    have hxl := rl.len
    have s03 := s02.trans s3
    refine for_it (walk_list (K := K) (a := pl) (xs := xs)) (fun i σ H' => Same H H' ∧ (∃ a, σ = [some v, some nv, some (.ref D), a, none]) ∧ Tups H3 H' ∧ H' pl = some (.lst xs) ∧ ∃ ys Ss, H' D = some (.lst ys) ∧ P2 (MvsR nm t H D H') ys Ss ∧ (∀ S, S ∈ Ss ↔ (S ∈ t.subs ∧ S ≠ t) ∧ nmS S ∈ L.take i) ∧ Ss.length ≤ i) ⟨s03, ⟨none, rfl⟩, fun _ _ h _ => h, hpl, [], [], s3 _ _ hDD, .nil, fun S => by simp, by simp⟩ (fun i σ H' _ p => SqL.of p.2.2.2.1) ?_ ?_
    · rintro i x σ H4 H5 hi ⟨s4, ⟨a, rfl⟩, t4, hpl4, ys, Ss, hys, rys, hSs, hlen⟩ ⟨rfl, hxi⟩
      obtain ⟨l, hl, rx⟩ := rl.get hxi
      have hlm : l ∈ L := List.mem_of_getElem? hl
      obtain ⟨S, hS, rfl⟩ := (hN.mem l).mp hlm
      have wS := hw.sub hS
      have lS : ∀ z ∈ nmS S, z < n := fun z hz => wS.lt z (mem_nmS.mp hz)
      have rx4 := tm_lot _ _ _ _ t4 rx
      have hnv4 := tm_lot _ _ _ _ ((Same.tups (sD.trans s3)).trans t4) hnv
      have tk : L.take (i + 1) = L.take i ++ [nmS S] := by rw [List.take_add_one, hl]; rfl
      have ylen := rys.len
      refine r_if (gt_use (b := decide (S ≠ t)) (gt_test fun Q' q' => r_op (gv_use (gv_len (n := (nmS S).length) (gv_var (R := fun H1 v => ∃ p xs, v = .ref p ∧ (SqL K H1 p xs ∨ SqT K H1 p xs) ∧ xs.length = (nmS S).length) rfl ((lot_tup.mp rx4).lens (K := K)))) fun z1 H5 s5 e1 => gv_use (gv_len (n := (nmS t).length) (gv_var rfl ((lot_tup.mp (tm_lot.same s5 hnv4)).lens (K := K)))) fun z2 H6 s6 e2 => ⟨_, _, e1, e2, q' _ _ (s5.trans s6) (congrArg V.bl (decide_eq_decide.mpr ?_))⟩)) fun H5 s5 => ?_)
      · constructor
        · rintro h rfl
          omega
        · intro h
          have h1 := len_sub hS
          rcases Nat.lt_or_ge (nmS S).length (nmS t).length with k | k
          · omega
          · exact (h (sub_big hw.ok hS k)).elim
      · by_cases hSt : S = t
        · rw [decide_eq_false (fun z => z hSt)]
          refine iteF (r_next ⟨s4.trans s5, ⟨_, rfl⟩, t4.trans (Same.tups s5), s5 _ _ hpl4, ys, Ss, s5 _ _ hys, rys.imp fun v b k => dm_mvs.sm _ _ _ v b s5 k, fun S' => ?_, by omega⟩)
          rw [hSs, tk, List.mem_append, List.mem_singleton]
          constructor
          · rintro ⟨h1, h2⟩; exact ⟨h1, .inl h2⟩
          · rintro ⟨h1, h2 | h2⟩
            · exact ⟨h1, h2⟩
            · exact (h1.2 ((nmS_inj hw.ok h1.1 hS h2).trans hSt)).elim
        · rw [decide_eq_true hSt]
          obtain ⟨R, hR⟩ : ∃ R, res (fun x => decide (x ∉ S.nm)) t = some R := by
            cases h : res (fun x => decide (x ∉ S.nm)) t with
            | none => exact (hSt (rest_none hw.ok hS h)).elim
            | some R => exact ⟨R, rfl⟩
          have wR : Wf n R := hw.res hR
          have hR' : res (fun x => decide (x ∉ nmS S)) t = some R := by rw [rest_nmS]; exact hR
          have s05 := s4.trans s5
          have t05 := t4.trans (Same.tups s5)
          have hys5 := s5 _ _ hys
          refine iteT (r_append (p := D) (Ry := fun H' y => MvsR nm t H D H' y S) rfl hys5 (by omega) (gv_pairG (Ra := fun H r => LotV nm H r (nmS S)) (Rb := fun H6 r => ∃ L q ys, Nodes R L ∧ r = .ref q ∧ H q = none ∧ q ≠ D ∧ H6 q = some (.lst ys) ∧ P2 (LotV nm H6) ys L) (gv_var rfl (tm_lot.same s5 rx4)) (fun H6 s6 => ?_) fun x y H6 H7 p s6 rx6 s7 ⟨L', q1, ys1, hN', e1, f1, n1, h1, r1⟩ hp => ⟨R, L', p, x, q1, ys1, hR, hN', f1, rfl, by rw [upd_same, e1], tm_lot.same (s7.trans (same_new hp _)) rx6, n1, (same_new hp _) _ _ h1, r1.imp fun _ _ k => tm_lot.same (same_new hp _) k⟩) fun y H6 s6 ry => ?_)
          · have hv6 := tm_tr.same (s05.trans s6) hv
            have rx6 := tm_lot.same (s5.trans s6) rx4
            have hnv6 := tm_lot.same (s5.trans s6) hnv4
            have hD6 := s6 _ _ hys5
            refine gv_call1 (Ra := fun H r => TrV nm H r R) (gv_call2 (Rb := fun H r => LstV (NmV nm) H r (lft t (nmS S))) (gv_var (R := fun H r => TrV nm H r t) rfl hv6) (fun H7 s7 => gv_imp (gv_left N (l := nmS S) (T := t) hw (tm_lot.same s7 rx6) lS (gv_var (R := fun H r => LotV nm H r (nmS t)) rfl (tm_lot.same s7 hnv6)) (fun _ => rfl) (fun _ => rfl) (fun _ => rfl)) fun _ _ _ z => z.l) fun x y H7 H8 s7 rx s8 ry => ⟨(t, lft t (nmS S)), ⟨x, y, rfl, tm_tr.same s8 rx, ry.sq.q, hw, fun x hx => hw.lt x (mem_lft.mp hx).1, h9⟩, fun r H3 s3 z => ?_⟩) fun x H7 s7 rx => ⟨R, ⟨x, rfl, rx, wR⟩, fun r H8 s8 ⟨L', hN', q1, ys1, e1, f1, h1, r1⟩ => ⟨L', q1, ys1, hN', e1, ((s05.trans s6).trans s7).free f1, fun z => (by rw [z, s7 _ _ hD6] at f1; cases f1), h1, r1⟩⟩
            have : OTr nm H3 r (res (Jt.el (lft t (nmS S))) t) := z
            rw [res_lft hR'] at this
            exact this
          · have hD6 := s6 _ _ hys5
            refine ⟨same_mut (s05.trans s6) hDH, ⟨_, rfl⟩, (t05.trans (Same.tups s6)).trans (tups_lst hD6), by rw [upd_ne hlD]; exact (s5.trans s6) _ _ hpl4, ys ++ [y], Ss ++ [S], upd_same, (rys.imp fun v b k => dm_mvs.up _ _ _ _ v b hD6 (dm_mvs.sm _ _ _ v b (s5.trans s6) k)).app (.cons (dm_mvs.up _ _ _ _ _ _ hD6 ry) .nil), fun S' => ?_, by simp; omega⟩
            rw [List.mem_append, hSs, tk, List.mem_append, List.mem_singleton, List.mem_singleton]
            constructor
            · rintro (⟨h1, h2⟩ | rfl)
              · exact ⟨h1, .inl h2⟩
              · exact ⟨⟨hS, hSt⟩, .inr rfl⟩
            · rintro ⟨h1, h2 | h2⟩
              · exact .inl ⟨h1, h2⟩
              · exact .inr (nmS_inj hw.ok h1.1 hS h2)
    · rintro σ H4 ⟨s4, ⟨a, rfl⟩, t4, hpl4, ys, Ss, hys, rys, hSs, hlen⟩
      rw [List.take_of_length_le (by omega)] at hSs
      refine r_ret (r_var rfl (q _ _ s4 ⟨D, ys, Ss, rfl, hDH, hys, rys, fun S => ?_, by omega⟩))
      rw [hSs]
      exact ⟨fun h => h.1, fun h => ⟨h, (hN.mem _).mpr ⟨S, h.1, rfl⟩⟩⟩
end
end Jw
end

section
set_option Elab.async false
set_option linter.all false
set_option maxRecDepth 100000
set_option maxHeartbeats 4000000
/-! The law's own defs: all_parts, forests. -/
namespace Jt
open Jt.Tr
def addp (x : Nat) (st : Fst) : List Fst := (st.1 ++ [x], st.2) :: (st.1, st.2 ++ [[x]]) :: (List.range st.2.length).map fun k => (st.1, st.2.set k (st.2.getD k [] ++ [x]))
def stepp (x : Nat) (fs : List Fst) : List Fst := (fs.map (addp x)).flatten
def allp (names : List Nat) : List Fst := names.foldl (fun fs x => stepp x fs) [([], [])]
theorem addp_len (x : Nat) (st : Fst) : (addp x st).length = st.2.length + 2 := by simp [addp]
structure PB (i : Nat) (fs : List Fst) : Prop where
  len : fs.length ≤ 7 ^ i
  el : ∀ st ∈ fs, st.1.length ≤ i ∧ st.2.length ≤ i ∧ ∀ l ∈ st.2, l.length ≤ i
theorem mem_addp {x : Nat} {st st' : Fst} (h : st' ∈ addp x st) : st' = (st.1 ++ [x], st.2) ∨ st' = (st.1, st.2 ++ [[x]]) ∨ ∃ k, k < st.2.length ∧ st' = (st.1, st.2.set k (st.2.getD k [] ++ [x])) := by
  unfold addp at h
  rcases List.mem_cons.mp h with h | h
  · exact .inl h
  · rcases List.mem_cons.mp h with h | h
    · exact .inr (.inl h)
    · obtain ⟨k, hk, rfl⟩ := List.mem_map.mp h
      exact .inr (.inr ⟨k, List.mem_range.mp hk, rfl⟩)
theorem flat_len (k : Nat) {fs : List Fst} {x : Nat} (h : ∀ st ∈ fs, st.2.length ≤ k) : ((fs.map (addp x)).flatten).length ≤ (k + 2) * fs.length := by
  induction fs with
  | nil => simp
  | cons st fs ih =>
    have h1 := h st List.mem_cons_self
    have h2 := ih fun s hs => h s (List.mem_cons_of_mem _ hs)
    simp only [List.map_cons, List.flatten_cons, List.length_append, addp_len, List.length_cons]
    rw [Nat.mul_add, Nat.mul_one]
    omega
theorem PB.step {i x : Nat} {fs : List Fst} (h : PB i fs) (hi : i ≤ 5) : PB (i + 1) (stepp x fs) := by
  refine ⟨?_, fun st hst => ?_⟩
  · have h1 := flat_len (x := x) i (fs := fs) fun st hs => (h.el st hs).2.1
    have h2 := h.len
    unfold stepp
    rw [Nat.pow_succ]
    calc _ ≤ (i + 2) * fs.length := h1
      _ ≤ 7 * 7 ^ i := Nat.mul_le_mul (by omega) h2
      _ = 7 ^ i * 7 := Nat.mul_comm _ _
  · obtain ⟨l, hl, hm⟩ := List.mem_flatten.mp hst
    obtain ⟨s, hs, rfl⟩ := List.mem_map.mp hl
    obtain ⟨h1, h2, h3⟩ := h.el s hs
    rcases mem_addp hm with rfl | rfl | ⟨k, hk, rfl⟩
    · exact ⟨by simp; omega, by show s.2.length ≤ _; omega, fun l hl => Nat.le_succ_of_le (h3 l hl)⟩
    · refine ⟨by show s.1.length ≤ _; omega, by simp; omega, fun l hl => ?_⟩
      rcases List.mem_append.mp hl with h | h
      · exact Nat.le_succ_of_le (h3 l h)
      · rw [List.mem_singleton.mp h]; simp
    · refine ⟨by show s.1.length ≤ _; omega, by simp; omega, fun l hl => ?_⟩
      rcases List.mem_or_eq_of_mem_set hl with h | h
      · exact Nat.le_succ_of_le (h3 l h)
      · subst h
        have : (s.2.getD k []).length ≤ i := by
          rw [List.getD_eq_getElem?_getD, List.getElem?_eq_getElem hk]
          exact h3 _ (List.getElem_mem hk)
        rw [List.length_append, List.length_singleton]; omega
theorem allp_take (names : List Nat) {i x : Nat} (h : names[i]? = some x) : allp (names.take (i + 1)) = stepp x (allp (names.take i)) := by
  have : names.take (i + 1) = names.take i ++ [x] := by rw [List.take_add_one, h]; rfl
  rw [this]
  unfold allp
  rw [List.foldl_append]; rfl
theorem pb_allp (names : List Nat) : ∀ i, i ≤ 6 → PB i (allp (names.take i))
  | 0, _ => ⟨by simp [allp], fun st h => by
      simp only [List.take_zero, allp, List.foldl_nil, List.mem_singleton] at h
      subst h; exact ⟨Nat.le_refl _, Nat.le_refl _, fun l hl => by cases hl⟩⟩
  | i + 1, hi => by
    have ih := pb_allp names i (by omega)
    cases h : names[i]? with
    | some x => rw [allp_take names h]; exact ih.step (by omega)
    | none =>
      have hl : names.length ≤ i := List.getElem?_eq_none_iff.mp h
      rw [List.take_of_length_le hl] at ih
      rw [List.take_of_length_le (by omega)]
      exact ⟨Nat.le_trans ih.len (Nat.pow_le_pow_right (by decide) (Nat.le_succ _)), fun st hs => by
        obtain ⟨h1, h2, h3⟩ := ih.el st hs
        exact ⟨by omega, by omega, fun l hl => Nat.le_succ_of_le (h3 l hl)⟩⟩
theorem addp_longer {x : Nat} {st st' : Fst} (h : st' ∈ addp x st) (hl : st.2.length < 100) : st' ∈ longer st.1 st.2 x 100 := by
  unfold longer
  rw [if_pos hl]
  rcases mem_addp h with rfl | rfl | ⟨k, hk, rfl⟩
  · exact List.mem_cons_self
  · exact List.mem_cons_of_mem _ (List.mem_append_right _ (List.mem_singleton.mpr rfl))
  · exact List.mem_cons_of_mem _ (List.mem_append_left _ (List.mem_map.mpr ⟨k, List.mem_range.mpr hk, rfl⟩))
theorem fold_inv {T : Tr} {n : Nat} (w : Wf n T) (h5 : n ≤ 5) : ∀ {ns : List Nat} {fs : List Fst}, ns.Pairwise (· < ·) → (∀ x ∈ ns, x ∈ T.nm) → (∀ x ∈ T.nm, x ∉ ns → ∀ y ∈ ns, x < y) → (∀ st ∈ fs, SInv T 100 ns st.1 st.2) → ∀ st ∈ ns.foldl (fun fs x => stepp x fs) fs, SInv T 100 [] st.1 st.2
  | [], fs, _, _, _, h, st, hst => h st hst
  | x :: ns, fs, hs, hm, hlt, h, st, hst => by
    have hr := List.pairwise_cons.mp hs
    have hx : x ∉ ns := fun z => Nat.lt_irrefl _ (hr.1 x z)
    refine fold_inv w h5 (ns := ns) (fs := stepp x fs) hr.2 (fun y hy => hm y (by simp [hy])) (fun y hy hn z hz => ?_) (fun s hs => ?_) st hst
    · by_cases e : y = x
      · subst e; exact hr.1 z hz
      · exact hlt y hy (by simp [e, hn]) z (by simp [hz])
    · obtain ⟨l, hl, hm2⟩ := List.mem_flatten.mp hs
      obtain ⟨s0, hs0, rfl⟩ := List.mem_map.mp hl
      have h0 := h s0 hs0
      have hf := (h0.few5 w).1
      exact h0.longer (hm x (by simp)) hx (fun y hy hn => hlt y hy hn x (by simp)) s (addp_longer hm2 (by omega))
theorem fold_one : ∀ {ns : List Nat} {fs : List Fst} {o : List (List Nat)}, (([], o) : Fst) ∈ fs → (([], o ++ ns.map fun x => [x]) : Fst) ∈ ns.foldl (fun fs x => stepp x fs) fs
  | [], fs, o, h => by simpa using h
  | x :: ns, fs, o, h => by
    have := fold_one (ns := ns) (fs := stepp x fs) (o := o ++ [[x]]) (List.mem_flatten.mpr ⟨_, List.mem_map.mpr ⟨_, h, rfl⟩, List.mem_cons_of_mem _ List.mem_cons_self⟩)
    simpa [List.append_assoc] using this
theorem allp_inv {T : Tr} {n : Nat} (w : Wf n T) (h5 : n ≤ 5) : ∀ st ∈ allp (nmS T), SInv T 100 [] st.1 st.2 :=
  fold_inv w h5 (srt_nmS T) (fun x hx => mem_nmS.mp hx) (fun x hx hn => (hn (mem_nmS.mpr hx)).elim) fun st hst => by
    rw [List.mem_singleton.mp hst]
    exact sinv_start fun x => mem_nmS
theorem allp_one (T : Tr) : (([], (nmS T).map fun x => [x]) : Fst) ∈ allp (nmS T) := by
  have := fold_one (ns := nmS T) (fs := [([], [])]) (o := []) (List.mem_singleton.mpr rfl)
  rw [List.nil_append] at this
  exact this
theorem fo_one {T G : Tr} (hT : T.ok) (hG : G.ok) (same : ∀ x, x ∈ T.nm ↔ x ∈ G.nm) : Fo T G [] ((nmS T).map fun x => [x]) := (fo_ex hT hG same).perm ((nmS_perm hT).symm.map _)
end Jt
namespace Jw
open PySem PySem.Spec PyProof.Rows L2 Jt JH
section
variable {P : Program} {w : World} {K : PySem.W.Frag} {mg : Str → Option Value} {base : Heap} {f : Addr} {fd : FuncData} {nm : Nat → Str} {n : Nat}
/-! ### _law_all_parts -/
def spAllParts (nm : Nat → Str) (n : Nat) : Sp := Pur (ι := List Nat) (fun l vs H => ∃ v, vs = [v] ∧ LotV nm H v l ∧ l.length ≤ 5) (fun l H0 H r => LstN (FoV nm) H0 H r (allp l))
theorem addp_get {x i : Nat} {top : List Nat} {o : List (List Nat)} {l : List Nat} (hl : o[i]? = some l) : (addp x (top, o))[i + 2]? = some (top, o.set i (l ++ [x])) := by
  obtain ⟨hlt, he⟩ := List.getElem?_eq_some_iff.mp hl
  unfold addp
  simp only [List.getElem?_cons_succ, List.getElem?_map, List.getElem?_range hlt, Option.map_some]
  rw [List.getD_eq_getElem?_getD, hl]; rfl
theorem sc__law_all_parts : FnScope ["_law_names_here", "_law_found", "_law_name", "_law_longer", "_law_top", "_law_others", "_law_k", "_law_lot"] ["_law_names_here"] (defScope s_lawall_parts) := ⟨rfl, rfl, rfl, by decide +kernel, rfl, by decide +kernel, by decide +kernel⟩
theorem ok__law_all_parts (F : FnD K "_law_all_parts" s_lawall_parts f fd) (B : Bi mg) : FnOk P w K mg base CX0 1 f fd ["_law_names_here"] (spAllParts nm n) := by
  refine F.ok sc__law_all_parts (fun vs H Q E h => ?_) (fun cdv A outer s H vs Q E hr h => ?_)
  · obtain ⟨t, ⟨v, rfl, _⟩, _⟩ := h; rfl
  · obtain ⟨names, ⟨v, rfl, hv, hn5⟩, q⟩ := h
    refine ⟨_, PSs.nox (pss_cons (ps_set (i := 1) sc__law_all_parts.nd rfl (by first | exact Or.inl rfl | exact Or.inr rfl) (pe_lst (pa_cons (pe_tup (pa_cons (pe_tup pa_nil) (pa_cons (pe_tup pa_nil) pa_nil))) pa_nil)))
      (pss_cons (ps_for PassesOwn.never rfl (piT K (pv 0)) (pg_name (i := 2) sc__law_all_parts.nd rfl (by first | exact Or.inl rfl | exact Or.inr rfl)) (pss_cons (ps_set (i := 3) sc__law_all_parts.nd rfl (by first | exact Or.inl rfl | exact Or.inr rfl) (pe_lst pa_nil))
      (pss_cons (ps_for PassesOwn.never rfl (piL K (pv 1)) (pg_tup rfl (pgs_cons (pg_name (i := 4) sc__law_all_parts.nd rfl (by first | exact Or.inl rfl | exact Or.inr rfl)) (pgs_cons (pg_name (i := 5) sc__law_all_parts.nd rfl (by first | exact Or.inl rfl | exact Or.inr rfl)) pgs_nil))) (pss_cons (ps_expr (pe_bm PySem.F.plainAttrs_list PySem.F.slot_list_append PySem.F.type_list_append mt_append (pv 3) (pa_cons (pe_tup (pa_cons (pe_op (catA K) (pv 4) (pe_tup (pa_cons (pv 2) pa_nil))) (pa_cons (pv 5) pa_nil))) pa_nil)))
      (pss_cons (ps_expr (pe_bm PySem.F.plainAttrs_list PySem.F.slot_list_append PySem.F.type_list_append mt_append (pv 3) (pa_cons (pe_tup (pa_cons (pv 4) (pa_cons (pe_op (catA K) (pv 5) (pe_tup (pa_cons (pe_tup (pa_cons (pv 2) pa_nil)) pa_nil))) pa_nil))) pa_nil)))
      (pss_one (ps_for PassesOwn.never rfl (pi_enumT K (by rfl) B.enumerate (pa_cons (pv 5) pa_nil)) (pg_tup rfl (pgs_cons (pg_name (i := 6) sc__law_all_parts.nd rfl (by first | exact Or.inl rfl | exact Or.inr rfl)) (pgs_cons (pg_name (i := 7) sc__law_all_parts.nd rfl (by first | exact Or.inl rfl | exact Or.inr rfl)) pgs_nil))) (pss_one (ps_expr (pe_bm PySem.F.plainAttrs_list PySem.F.slot_list_append PySem.F.type_list_append mt_append (pv 3) (pa_cons (pe_tup (pa_cons (pv 4) (pa_cons (pe_op (catA K) (pe_op (catA K) (pe_slice (slT K) (pv 5) po_none (po_some (pv 6))) (pe_tup (pa_cons (pe_op (catA K) (pv 7) (pe_tup (pa_cons (pv 2) pa_nil))) pa_nil))) (pe_slice (slT K) (pv 5) (po_some (pe_op op_add (pv 6) (pe_int))) po_none)) pa_nil))) pa_nil)))))))))
      (pss_one (ps_set (i := 1) sc__law_all_parts.nd rfl (by first | exact Or.inl rfl | exact Or.inr rfl) (pv 3))))))
      (pss_one (ps_ret (pv 1))))), ?_⟩
    have hsl : (100000 : Nat) ≤ sizeLine := by decide
    have gv_nil : ∀ {H1 : Hp} {σ : L2.St}, Gv (tTup tNil) σ H1 fun H r => LotV nm H r [] := gv_imp (gv_unit (α := Nat) (RA := NmV nm)) fun _ _ _ z => lot_tup.mpr z
    refine r_seq (r_asg (r_lst1 (gv_use (gv_pair (a := ([] : List Nat)) (b := ([] : List (List Nat))) (tm_lot (nm := nm)) (tm_tup (tm_lot (nm := nm))) gv_nil fun H1 s1 => gv_unit (α := List Nat) (RA := LotV nm)) fun y H1 s1 ry => ⟨one_line, fun p0 hp0 => ?_⟩)))
    have s0 := s1.trans (same_new hp0 (.lst [y]))
    obtain ⟨pn, rfl, hpn⟩ := id hv
    refine r_seq (r_forT (r_var rfl ⟨pn, rfl, ⟨_, SqT.of (s0 _ _ hpn)⟩, for_it (walk_tup (K := K) (a := pn) (xs := names.map (sv nm))) (fun i σ H' => Same H H' ∧ ∃ fv a b c d e g, σ = [some (.ref pn), some fv, a, b, c, d, e, g] ∧ LstN (FoV nm) H H' fv (allp (names.take i))) ⟨s0, _, _, _, _, _, _, _, rfl, p0, [y], rfl, s1.free hp0, upd_same, .cons (tm_fo.same (same_new hp0 _) ry) .nil⟩ (fun i σ H' _ p => same_t p.1 (SqT.of hpn)) ?_ ?_⟩))
    · rintro i x σ H1' H1 hi ⟨s1, fv, a, b, c, d, e, g, rfl, pf, xs, rfl, fpf, hpf, rf⟩ ⟨rfl, hxi⟩
      rw [List.length_map] at hi
      rw [List.getElem?_map] at hxi
      obtain ⟨x0, hx0, rfl⟩ : ∃ x0, names[i]? = some x0 ∧ sv nm x0 = x := by
        cases h : names[i]? with
        | none => rw [h] at hxi; cases hxi
        | some z => rw [h] at hxi; exact ⟨z, rfl, Option.some.inj hxi⟩
      have hpb := pb_allp names i (by omega)
      have h7 : 7 ^ i ≤ 7 ^ 4 := Nat.pow_le_pow_right (by decide) (by omega)
      have h74 : (7 : Nat) ^ 4 = 2401 := by decide
      generalize hfs : allp (names.take i) = fs at rf hpb
      have hfl := hpb.len
      have hxl := rf.len
      refine r_seq (r_asg (r_nilL fun D hD => ?_))
      have sD : Same H1 (upd H1 D (.lst [])) := same_new hD _
      have hDH : H D = none := s1.free hD
      refine r_seq (r_forL (r_var rfl ⟨pf, rfl, ⟨xs, SqL.of (sD _ _ hpf)⟩, for_it (walk_list (K := K) (a := pf) (xs := xs)) (fun j σ H' => Same H1 H' ∧ (∃ c d e g, σ = [some (.ref pn), some (.ref pf), some (sv nm x0), some (.ref D), c, d, e, g]) ∧ ∃ ys, H' D = some (.lst ys) ∧ P2 (FoV nm H') ys (((fs.take j).map (addp x0)).flatten)) ⟨sD, ⟨_, _, _, _, rfl⟩, [], upd_same, by simp; exact .nil⟩ (fun i σ H' _ p => p.1.seq (SqL.of hpf)) ?_ ?_⟩))
      · rintro j xf σ H2' H2 hj ⟨s2, ⟨c, d, e, g, rfl⟩, ys, hys, rys⟩ ⟨rfl, hxj⟩
        obtain ⟨⟨top, o⟩, hst, rst⟩ := rf.get hxj
        obtain ⟨h1, h2, h3⟩ := hpb.el _ (List.mem_of_getElem? hst)
        simp only at h1 h2 h3
        obtain ⟨pp, px, py, rfl, hpp, hpx, hpy⟩ := tm_fo.same s2 rst
        simp only at hpx hpy
        obtain ⟨pu, us, rfl, hpu, ru⟩ := id hpy
        have hul := ru.len
        have hflat : (((fs.take j).map (addp x0)).flatten).length ≤ 7 * 2401 := by
          have k1 := flat_len (x := x0) i (fs := fs.take j) fun st hs => (hpb.el st (List.mem_of_mem_take hs)).2.1
          have k2 : (fs.take j).length ≤ fs.length := by rw [List.length_take]; omega
          calc _ ≤ (i + 2) * (fs.take j).length := k1
            _ ≤ 7 * 2401 := Nat.mul_le_mul (by omega) (by omega)
        generalize hpre : ((fs.take j).map (addp x0)).flatten = pre at rys hflat
        have ylen := rys.len
        refine ⟨pp, _, rfl, SqT.of hpp, rfl, _, _, rfl, _, _, rfl, rfl, ?_⟩
        -- top + (name,)
        refine r_seq (r_append (p := D) (Ry := fun H r => FoV nm H r (top ++ [x0], o)) rfl hys (by omega) (gv_pair (tm_lot (nm := nm)) (tm_tup (tm_lot (nm := nm))) (gv_catLot (gv_var (R := fun H r => LotV nm H r top) rfl hpx) (fun H1 s1 => gv_nm1 (gv_var (R := fun _ r => r = sv nm x0) rfl rfl)) (by simp; omega)) (fun H4 s4 => gv_var (R := fun H r => TupV (LotV nm) H r o) rfl ((tm_tup tm_lot).same s4 hpy))) fun y1 H4 s4 ry1 => ?_)
        have hD4 := s4 _ _ hys
        have t4 : Tups H2 (upd H4 D (.lst (ys ++ [y1]))) := (Same.tups s4).trans (tups_lst hD4)
        have s14 : Same H1 (upd H4 D (.lst (ys ++ [y1]))) := same_mut (s2.trans s4) hD
        have hD4' : upd H4 D (.lst (ys ++ [y1])) D = some (.lst (ys ++ [y1])) := upd_same
        have r4 : P2 (FoV nm (upd H4 D (.lst (ys ++ [y1])))) (ys ++ [y1]) (pre ++ [(top ++ [x0], o)]) := (rys.imp fun _ _ k => tm_fo _ _ _ _ t4 k).app (.cons (tm_fo _ _ _ _ (tups_lst hD4) ry1) .nil)
        generalize upd H4 D (.lst (ys ++ [y1])) = H5 at t4 s14 hD4' r4 ⊢
        -- others + ((name,),)
        refine r_seq (r_append (p := D) (Ry := fun H r => FoV nm H r (top, o ++ [[x0]])) rfl hD4' (by simp; omega) (gv_pair (tm_lot (nm := nm)) (tm_tup (tm_lot (nm := nm))) (gv_var (R := fun H r => LotV nm H r top) rfl (tm_lot _ _ _ _ t4 hpx)) fun H4 s4 => gv_catA (as := o) (bs := [[x0]]) (tm_lot (nm := nm)) (gv_var (R := fun H r => TupV (LotV nm) H r o) rfl ((tm_tup tm_lot).same s4 (tm_tup tm_lot _ _ _ _ t4 hpy))) (fun H5 s5 => gv_one (tm_lot (nm := nm)) (gv_nm1 (gv_var (R := fun _ r => r = sv nm x0) rfl rfl))) (by simp; omega)) fun y2 H6 s6 ry2 => ?_)
        have hD6 := s6 _ _ hD4'
        have t6 : Tups H2 (upd H6 D (.lst (ys ++ [y1] ++ [y2]))) := (t4.trans (Same.tups s6)).trans (tups_lst hD6)
        have s16 : Same H1 (upd H6 D (.lst (ys ++ [y1] ++ [y2]))) := same_mut (s14.trans s6) hD
        have hD6' : upd H6 D (.lst (ys ++ [y1] ++ [y2])) D = some (.lst (ys ++ [y1] ++ [y2])) := upd_same
        have r6 : P2 (FoV nm (upd H6 D (.lst (ys ++ [y1] ++ [y2])))) (ys ++ [y1] ++ [y2]) (pre ++ (addp x0 (top, o)).take (0 + 2)) := by
          have : pre ++ (addp x0 (top, o)).take (0 + 2) = pre ++ [(top ++ [x0], o)] ++ [(top, o ++ [[x0]])] := by simp [addp]
          rw [this]
          exact (r4.imp fun _ _ k => tm_fo _ _ _ _ ((Same.tups s6).trans (tups_lst hD6)) k).app (.cons (tm_fo _ _ _ _ (tups_lst hD6) ry2) .nil)
        generalize hzs : ys ++ [y1] ++ [y2] = zs at t6 s16 hD6' r6
        generalize upd H6 D (.lst zs) = H7 at t6 s16 hD6' r6 ⊢
        have hadl := addp_len x0 (top, o)
        simp only at hadl
        refine r_var rfl ⟨pu, us, rfl, SqT.of (t6 _ _ hpu trivial), for_it (walk_enumT (K := K) (a := pu) (xs := us)) (fun k σ H' => Same H1 H' ∧ Tups H2 H' ∧ (∃ a b, σ = [some (.ref pn), some (.ref pf), some (sv nm x0), some (.ref D), some px, some (.ref pu), a, b]) ∧ ∃ ys, H' D = some (.lst ys) ∧ P2 (FoV nm H') ys (pre ++ (addp x0 (top, o)).take (k + 2))) ⟨s16, t6, ⟨_, _, rfl⟩, zs, hD6', r6⟩ (fun k σ H' _ p => SqT.of (p.2.1 _ _ hpu trivial)) ?_ ?_⟩
        · rintro k xk σ H8 H9 hk ⟨s8, t8, ⟨a, b, rfl⟩, ys8, hys8, rys8⟩ ⟨T0, kx, lx, rfl, hT0, rfl, e1, e2⟩
          cases e1
          obtain ⟨l, hl, rl⟩ := ru.get e2
          have hko : k < o.length := by omega
          have hlm : l ∈ o := List.mem_of_getElem? hl
          have hll := h3 l hlm
          have hne : T0 ≠ D := fun z => by rw [z, hys8] at hT0; cases hT0
          refine ⟨T0, [.int (k : Nat), lx], rfl, SqT.of upd_same, rfl, _, _, rfl, _, _, rfl, rfl, ?_⟩
          have s9 : Same H8 (upd H8 T0 (.tup [.int (k : Nat), lx])) := same_new hT0 _
          have t9 := t8.trans (Same.tups s9)
          have hys9 := s9 _ _ hys8
          have ylen8 := rys8.len
          have htl : ((addp x0 (top, o)).take (k + 2)).length ≤ 7 := by rw [List.length_take]; omega
          rw [List.length_append] at ylen8
          refine r_append (p := D) rfl hys9 (by omega) (gv_pair (tm_lot (nm := nm)) (tm_tup (tm_lot (nm := nm))) (gv_var (R := fun H r => LotV nm H r top) rfl (tm_lot _ _ _ _ t9 hpx)) fun H4 s4 => gv_catA (as := o.take k ++ [l ++ [x0]]) (bs := o.drop (k + 1)) (tm_lot (nm := nm)) (gv_catA (as := o.take k) (bs := [l ++ [x0]]) (tm_lot (nm := nm)) (gv_take (k := k) (tm_lot (nm := nm)) (gv_var (R := fun H r => TupV (LotV nm) H r o) rfl ((tm_tup tm_lot).same s4 (tm_tup tm_lot _ _ _ _ t9 hpy))) (fun H5 s5 => gv_var rfl rfl) hko) (fun H5 s5 => gv_one (tm_lot (nm := nm)) (gv_catLot (gv_var (R := fun H r => LotV nm H r l) rfl (tm_lot.same (s4.trans s5) (tm_lot _ _ _ _ t9 rl))) (fun H1 s1 => gv_nm1 (gv_var (R := fun _ r => r = sv nm x0) rfl rfl)) (by simp; omega))) (by rw [List.length_take]; simp; omega)) (fun H5 s5 => gv_drop (k := k + 1) (tm_lot (nm := nm)) (gv_var (R := fun H r => TupV (LotV nm) H r o) rfl ((tm_tup tm_lot).same (s4.trans s5) (tm_tup tm_lot _ _ _ _ t9 hpy))) (fun H6 s6 => fun Q' q' => r_op (r_var rfl (r_c ⟨_, _, rfl, rfl, q' _ _ (Same.refl _) rfl⟩))) (by omega) (fun z => by rw [z] at hko; exact absurd hko (by simp))) (by simp; omega)) fun y9 H9 s10 ry9 => ?_
          have hD9 := s10 _ _ hys9
          refine ⟨same_mut ((s8.trans s9).trans s10) hD, (t9.trans (Same.tups s10)).trans (tups_lst hD9), ⟨_, _, rfl⟩, ys8 ++ [y9], upd_same, ?_⟩
          rw [set_cut o k (l ++ [x0]) hko] at ry9
          have tk : pre ++ (addp x0 (top, o)).take (k + 1 + 2) = pre ++ (addp x0 (top, o)).take (k + 2) ++ [(top, o.set k (l ++ [x0]))] := by
            rw [List.append_assoc]
            congr 1
            rw [show k + 1 + 2 = (k + 2) + 1 by omega, List.take_add_one, addp_get hl]; rfl
          rw [tk]
          exact (rys8.imp fun _ _ z => tm_fo _ _ _ _ (((Same.tups s9).trans (Same.tups s10)).trans (tups_lst hD9)) z).app (.cons (tm_fo _ _ _ _ (tups_lst hD9) ry9) .nil)
        · rintro σ H8 ⟨s8, t8, ⟨a, b, rfl⟩, ys8, hys8, rys8⟩
          refine ⟨s8, ⟨_, _, _, _, rfl⟩, ys8, hys8, ?_⟩
          have tk : fs.take (j + 1) = fs.take j ++ [(top, o)] := by rw [List.take_add_one, hst]; rfl
          rw [tk, List.map_append, List.flatten_append, hpre]
          rw [List.take_of_length_le (by omega)] at rys8
          simpa using rys8
      · rintro σ H2 ⟨s2, ⟨c, d, e, g, rfl⟩, ys, hys, rys⟩
        rw [List.take_of_length_le (by omega)] at rys
        have hal : allp (names.take (i + 1)) = (fs.map (addp x0)).flatten := by rw [allp_take names hx0, hfs]; rfl
        dsimp only
        refine r_asg (r_var rfl ?_)
        exact ⟨s1.trans s2, _, _, _, _, _, _, _, rfl, D, ys, rfl, hDH, hys, by rw [hal]; exact rys⟩
    · rintro σ H1 ⟨s1, fv, a, b, c, d, e, g, rfl, hf⟩
      rw [List.length_map, List.take_of_length_le (Nat.le_refl _)] at hf
      exact r_ret (r_var rfl (q _ _ s1 hf))
/-! ### _law_forests -/
def spForests (nm : Nat → Str) (n : Nat) : Sp := Pur (ι := Tr × Tr) (fun i vs H => ∃ v v', vs = [v, v'] ∧ TrV nm H v i.1 ∧ TrV nm H v' i.2 ∧ Wf n i.1 ∧ Wf n i.2 ∧ ∀ x, x ∈ i.1.nm ↔ x ∈ i.2.nm)
  (fun i H0 H r => ∃ L, LstN (FoV nm) H0 H r L ∧ L ≠ [] ∧ L.length ≤ 100000 ∧ ∀ st ∈ L, Fo i.1 i.2 st.1 st.2 ∧ PartsOk nm n (nmS i.1) st.1 st.2)
theorem sc__law_forests : FnScope ["_law_one", "_law_other", "_law_found", "_law_top", "_law_others"] ["_law_one", "_law_other"] (defScope s_lawforests) := ⟨rfl, rfl, rfl, by decide +kernel, rfl, by decide +kernel, by decide +kernel⟩
theorem ok__law_forests (F : FnD K "_law_forests" s_lawforests f fd) (B : Bi mg) (N : Nm nm n) (c__law_all_parts : Cal P w K mg base 1 "_law_all_parts" ["_law_names_here"] (spAllParts nm n)) (c__law_below : Cal P w K mg base 1 "_law_below" ["_law_tree_here"] (spNamesIn nm n)) (c__law_is_forest : Cal P w K mg base 12 "_law_is_forest" ["_law_one", "_law_other", "_law_top", "_law_others"] (spShare nm n)) :
    FnOk P w K mg base CX0 13 f fd ["_law_one", "_law_other"] (spForests nm n) := by
  refine F.ok sc__law_forests (fun vs H Q E h => ?_) (fun cdv A outer s H vs Q E hr h => ?_)
  · obtain ⟨t, ⟨v, v', rfl, _⟩, _⟩ := h; rfl
  · obtain ⟨⟨T, G⟩, ⟨v, v', rfl, hv, hv', hw, hw', same⟩, q⟩ := h
    simp only at hv hv' hw hw' same
    have hu := hr.units
    refine ⟨_, PSs.nox (pss_cons (ps_set (i := 2) sc__law_forests.nd rfl (by first | exact Or.inl rfl | exact Or.inr rfl) (pe_lst pa_nil))
      (pss_cons (ps_for PassesOwn.never rfl (piL K (pe_cal c__law_all_parts (hr.mono (by first | decide | omega)) (pa_cons (pe_cal c__law_below (hr.mono (by first | decide | omega)) (pa_cons (pv 0) pa_nil)) pa_nil))) (pg_tup rfl (pgs_cons (pg_name (i := 3) sc__law_forests.nd rfl (by first | exact Or.inl rfl | exact Or.inr rfl)) (pgs_cons (pg_name (i := 4) sc__law_forests.nd rfl (by first | exact Or.inl rfl | exact Or.inr rfl)) pgs_nil))) (pss_one (ps_if (pt_val (pe_cal c__law_is_forest (hr.mono (by first | decide | omega)) (pa_cons (pv 0) (pa_cons (pv 1) (pa_cons (pv 3) (pa_cons (pv 4) pa_nil)))))) (pss_one (ps_expr (pe_bm PySem.F.plainAttrs_list PySem.F.slot_list_append PySem.F.type_list_append mt_append (pv 2) (pa_cons (pe_tup (pa_cons (pv 3) (pa_cons (pe_callTy (tupQ K) (by rfl) B.tuple boot_tuple (pa_cons (pe_callB (sortQ K hu) (by rfl) B.sorted boot_sorted (pa_cons (pv 4) pa_nil)) pa_nil)) pa_nil))) pa_nil)))) pss_nil)))
      (pss_one (ps_ret (pv 2))))), ?_⟩
    have hsl : (100000 : Nat) ≤ sizeLine := by decide
    have hfw := N.few
    have hls := hw.lenS
    have hpb := pb_allp (nmS T) (nmS T).length (by omega)
    rw [List.take_length] at hpb
    have h7 : 7 ^ (nmS T).length ≤ 7 ^ 5 := Nat.pow_le_pow_right (by decide) (by omega)
    have h75 : (7 : Nat) ^ 5 = 16807 := by decide
    have hpl := hpb.len
    have hinv := allp_inv hw hfw
    refine r_seq (r_asg (r_nilL fun D hD => ?_))
    have sD : Same H (upd H D (.lst [])) := same_new hD _
    refine r_seq (r_forL (gv_use (gv_call1 (R := fun H2 r => LstN (FoV nm) (upd H D (.lst [])) H2 r (allp (nmS T))) (gv_call1 (R := fun H2 r => LotV nm H2 r (nmS T)) (gv_var (R := fun H r => TrV nm H r T) rfl (tm_tr.same sD hv)) fun x H1 s1 rx => ⟨T, ⟨x, rfl, rx, hw⟩, fun r H2 s2 z => z⟩) fun x H1 s1 rx => ⟨nmS T, ⟨x, rfl, rx, by omega⟩, fun r H2 s2 z => z.back s1⟩) fun lv H1 s1 ⟨pl, xs, el, fl, hpl2, rl⟩ => ⟨pl, el, ⟨xs, SqL.of hpl2⟩, ?_⟩))
    have hlD : pl ≠ D := fun z => by rw [z, upd_same] at fl; cases fl
    have hxl := rl.len
    have hD1 : H1 D = some (.lst []) := s1 _ _ upd_same
    refine for_it (walk_list (K := K) (a := pl) (xs := xs)) (fun i σ H' => Same H H' ∧ Tups H1 H' ∧ H' pl = some (.lst xs) ∧ (∃ a b, σ = [some v, some v', some (.ref D), a, b]) ∧ ∃ ys L, H' D = some (.lst ys) ∧ P2 (FoV nm H') ys L ∧ L.length ≤ i ∧ (∀ st ∈ L, Fo T G st.1 st.2 ∧ PartsOk nm n (nmS T) st.1 st.2) ∧ ∀ st ∈ (allp (nmS T)).take i, Share T G st.1 st.2 → L ≠ []) ⟨sD.trans s1, Tups.refl _, hpl2, ⟨none, none, rfl⟩, [], [], hD1, .nil, Nat.le_refl _, fun st h => (by cases h), fun st h => (by simp at h)⟩ (fun i σ H' _ p => SqL.of p.2.2.1) ?_ ?_
    · rintro i x σ H2' H2 hi ⟨s2, t2, hp2, ⟨a, b, rfl⟩, ys, L, hys, rys, hlen, hall, hsome⟩ ⟨rfl, hxi⟩
      obtain ⟨⟨top, o⟩, hst, rst⟩ := rl.get hxi
      have hstm := List.mem_of_getElem? hst
      have hi0 := hinv _ hstm
      simp only at hi0
      have hlo := sinv_lots hi0 hw N
      obtain ⟨pp, px, py, rfl, hpp, hpx, hpy⟩ := tm_fo _ _ _ _ t2 rst
      simp only at hpx hpy
      have hol := hlo.ol
      have ylen := rys.len
      have tk : (allp (nmS T)).take (i + 1) = (allp (nmS T)).take i ++ [(top, o)] := by rw [List.take_add_one, hst]; rfl
      refine ⟨pp, _, rfl, SqT.of hpp, rfl, _, _, rfl, _, _, rfl, rfl, ?_⟩
      refine r_if (gt_use (b := decide (Share T G top o)) (gt_gv fun Q' q' => r_call4 (r_var rfl (r_var rfl (r_var rfl (r_var rfl ⟨(T, G, top, o), ⟨v, v', px, py, rfl, tm_tr.same s2 hv, tm_tr.same s2 hv', hpx, hpy, hw, hw', hlo, lots_other hlo same⟩, q'⟩))))) fun H3 s3 => ?_)
      have hys3 := s3 _ _ hys
      by_cases hsh : Share T G top o
      · rw [decide_eq_true hsh]
        have hfo := sinv_fo same hi0 hsh
        refine iteT (r_append (p := D) (Ry := fun H r => ∃ o', (o'.Perm o ∧ Srt (dL nm) o') ∧ FoV nm H r (top, o')) rfl hys3 (by omega) (gv_pairG (Ra := fun H r => LotV nm H r top) (Rb := fun H r => ∃ as, (as.Perm o ∧ Srt (dL nm) as) ∧ TupV (LotV nm) H r as) (gv_var rfl (tm_lot.same s3 hpx)) (fun H4 s4 => gv_imp (gv_tupOf (K := K) (fun bs => bs.Perm o ∧ Srt (dL nm) bs) (tm_lot (nm := nm)) (gv_imp (gv_sorted (d := dL nm) (fun as => as = o) (tm_lot (nm := nm)) (gv_var (R := fun H r => ∃ as, as = o ∧ SqV K (LotV nm) H r as) rfl ⟨o, rfl, ((tm_tup tm_lot).same (s3.trans s4) hpy).sq.q⟩) (fun as v a H1 _ _ r => dp_lot r) (fun as _ => alike_dL as) (fun as e => sortable_dL fun l hl => (hlo.each l (e ▸ hl)).1) (fun as _ a _ => Nat.le_trans (depth_dL a) (by omega))) fun r H5 s5 ⟨as, bs, e, pm, sr, hb⟩ => ⟨bs, ⟨by rw [← e]; exact pm, sr⟩, hb.l⟩)) fun r H5 s5 z => z) fun x y H4 H5 p s4 rx s5 ⟨as, pas, ry⟩ hp => ⟨as, pas, p, x, y, rfl, upd_same, tm_lot.same (s5.trans (same_new hp _)) rx, (tm_tup tm_lot).same (same_new hp _) ry⟩) fun y H4 s4 ⟨o', ⟨pm, sr⟩, ry⟩ => ?_)
        have hD4 := s4 _ _ hys3
        refine ⟨same_mut ((s2.trans s3).trans s4) hD, (t2.trans (Same.tups (s3.trans s4))).trans (tups_lst hD4), by rw [upd_ne hlD]; exact (s3.trans s4) _ _ hp2, ⟨_, _, rfl⟩, ys ++ [y], L ++ [(top, o')], upd_same, (rys.imp fun _ _ k => tm_fo _ _ _ _ ((Same.tups (s3.trans s4)).trans (tups_lst hD4)) k).app (.cons (tm_fo _ _ _ _ (tups_lst hD4) ry) .nil), by simp; omega, fun st hst' => ?_, fun _ _ _ z => by simp at z⟩
        rcases List.mem_append.mp hst' with h | h
        · exact hall st h
        · rw [List.mem_singleton.mp h]
          exact ⟨hfo.perm pm.symm, parts_of hi0 hw N pm sr⟩
      · rw [decide_eq_false hsh]
        refine iteF (r_next ⟨s2.trans s3, t2.trans (Same.tups s3), s3 _ _ hp2, ⟨_, _, rfl⟩, ys, L, hys3, rys.imp fun _ _ k => tm_fo.same s3 k, by omega, hall, fun st hst' hs => ?_⟩)
        rw [tk] at hst'
        rcases List.mem_append.mp hst' with h | h
        · exact hsome st h hs
        · rw [List.mem_singleton.mp h] at hs; exact (hsh hs).elim
    · rintro σ H2 ⟨s2, t2, hp2, ⟨a, b, rfl⟩, ys, L, hys, rys, hlen, hall, hsome⟩
      rw [List.take_of_length_le (by omega)] at hsome
      refine r_ret (r_var rfl (q _ _ s2 ⟨L, ⟨D, ys, rfl, hD, hys, rys⟩, ?_, by omega, hall⟩))
      exact hsome _ (allp_one T) (fo_share (fo_one hw.ok hw'.ok same))
end
end Jw
end

section
set_option Elab.async false
set_option linter.all false
set_option maxRecDepth 100000
set_option maxHeartbeats 4000000
/-! The law's own defs: text. -/
namespace Jw
open PySem PySem.Spec PyProof.Rows L2 Jt JH
/-! ### the text of a tree -/
def txt (nm : Nat → Str) : Tr → Str
  | .lf i => nm i
  | .fk a b => (Str.ofString "(" ++ Str.join (Str.ofString ",") [txt nm a, txt nm b]) ++ Str.ofString ")"
abbrev tls (x : Str) : List Nat := x.cps.toList
theorem tls_app (x y : Str) : tls (x ++ y) = tls x ++ tls y := by
  show (x.cps ++ y.cps).toList = _
  simp
theorem tls_signs : tls (Str.ofString "(") = [40] ∧ tls (Str.ofString ",") = [44] ∧ tls (Str.ofString ")") = [41] := by decide +kernel
theorem tls_txt (nm : Nat → Str) (a b : Tr) : tls (txt nm (.fk a b)) = 40 :: (tls (txt nm a) ++ (44 :: (tls (txt nm b) ++ [41]))) := by
  obtain ⟨h1, h2, h3⟩ := tls_signs
  show tls ((Str.ofString "(" ++ (txt nm a ++ Str.ofString "," ++ txt nm b)) ++ Str.ofString ")") = _
  rw [tls_app, tls_app, tls_app, tls_app, h1, h2, h3]
  simp [List.append_assoc]
theorem len_txt {nm : Nat → Str} {n : Nat} (N : Nm nm n) : ∀ {t : Tr}, (∀ x ∈ t.nm, x < n) → (txt nm t).length ≤ 12 * t.sz
  | .lf i, h => by
    have := (N.len i (h i (by simp [Tr.nm]))).2
    simp only [txt, Tr.sz]; omega
  | .fk a b, h => by
    have h1 := len_txt N (t := a) fun x hx => h x (List.mem_append_left _ hx)
    have h2 := len_txt N (t := b) fun x hx => h x (List.mem_append_right _ hx)
    have e := congrArg List.length (tls_txt nm a b)
    simp only [List.length_cons, List.length_append, List.length_nil] at e
    have l1 : (tls (txt nm a)).length = (txt nm a).length := Array.length_toList
    have l2 : (tls (txt nm b)).length = (txt nm b).length := Array.length_toList
    have l3 : (tls (txt nm (.fk a b))).length = (txt nm (.fk a b)).length := Array.length_toList
    simp only [Tr.sz]; omega
/-- no letter begins it -/
def Stop (r : List Nat) : Prop := ∀ c s, r = c :: s → c < 97
theorem munch : ∀ {l m r s : List Nat}, (∀ c ∈ l, 97 ≤ c) → (∀ c ∈ m, 97 ≤ c) → Stop r → Stop s → l ++ r = m ++ s → l = m ∧ r = s
  | [], [], r, s, _, _, _, _, e => ⟨rfl, e⟩
  | [], c :: m, r, s, _, hm, hr, _, e => by
    have := hr c (m ++ s) e
    have := hm c List.mem_cons_self
    omega
  | c :: l, [], r, s, hl, _, _, hs, e => by
    have := hs c (l ++ r) e.symm
    have := hl c List.mem_cons_self
    omega
  | c :: l, d :: m, r, s, hl, hm, hr, hs, e => by
    simp only [List.cons_append, List.cons.injEq] at e
    obtain ⟨h1, h2⟩ := munch (fun c hc => hl c (List.mem_cons_of_mem _ hc)) (fun c hc => hm c (List.mem_cons_of_mem _ hc)) hr hs e.2
    exact ⟨by rw [e.1, h1], h2⟩
theorem txt_parse {nm : Nat → Str} {n : Nat} (N : Nm nm n) : ∀ {t u : Tr} {r s : List Nat}, (∀ x ∈ t.nm, x < n) → (∀ x ∈ u.nm, x < n) → Stop r → Stop s → tls (txt nm t) ++ r = tls (txt nm u) ++ s → t = u ∧ r = s
  | .lf i, .lf j, r, s, ht, hu, hr, hs, e => by
    have hi := ht i (by simp [Tr.nm])
    have hj := hu j (by simp [Tr.nm])
    obtain ⟨h1, h2⟩ := munch (fun c hc => (N.low i hi c hc).1) (fun c hc => (N.low j hj c hc).1) hr hs e
    exact ⟨by rw [N.inj hi hj (PySem.W.str_of_cps h1)], h2⟩
  | .lf i, .fk a b, r, s, ht, hu, hr, hs, e => by
    have hi := ht i (by simp [Tr.nm])
    rw [tls_txt] at e
    have hl := (N.len i hi).1
    cases hc : tls (nm i) with
    | nil =>
      have l3 : (tls (nm i)).length = (nm i).length := Array.length_toList
      rw [hc] at l3
      simp only [List.length_nil] at l3
      omega
    | cons c l =>
      have e : tls (nm i) ++ r = 40 :: (tls (txt nm a) ++ (44 :: (tls (txt nm b) ++ [41]))) ++ s := e
      rw [hc] at e
      simp only [List.cons_append, List.cons.injEq] at e
      have := (N.low i hi c (by rw [show (nm i).cps.toList = c :: l from hc]; exact List.mem_cons_self)).1
      omega
  | .fk a b, .lf j, r, s, ht, hu, hr, hs, e => by
    have hi := hu j (by simp [Tr.nm])
    rw [tls_txt] at e
    have hl := (N.len j hi).1
    cases hc : tls (nm j) with
    | nil =>
      have l3 : (tls (nm j)).length = (nm j).length := Array.length_toList
      rw [hc] at l3
      simp only [List.length_nil] at l3
      omega
    | cons c l =>
      have e : 40 :: (tls (txt nm a) ++ (44 :: (tls (txt nm b) ++ [41]))) ++ r = tls (nm j) ++ s := e
      rw [hc] at e
      simp only [List.cons_append, List.cons.injEq] at e
      have := (N.low j hi c (by rw [show (nm j).cps.toList = c :: l from hc]; exact List.mem_cons_self)).1
      omega
  | .fk a b, .fk c d, r, s, ht, hu, hr, hs, e => by
    rw [tls_txt, tls_txt] at e
    simp only [List.cons_append, List.cons.injEq, true_and, List.append_assoc] at e
    have st : ∀ (z : Nat) (l : List Nat), z < 97 → Stop (z :: l) := fun z l hz c s e => by cases e; exact hz
    obtain ⟨h1, h2⟩ := txt_parse N (fun x hx => ht x (List.mem_append_left _ hx)) (fun x hx => hu x (List.mem_append_left _ hx)) (st 44 _ (by decide)) (st 44 _ (by decide)) e
    simp only [List.cons.injEq, true_and] at h2
    obtain ⟨h3, h4⟩ := txt_parse N (fun x hx => ht x (List.mem_append_right _ hx)) (fun x hx => hu x (List.mem_append_right _ hx)) (st 41 _ (by decide)) (st 41 _ (by decide)) h2
    simp only [List.nil_append, List.cons.injEq, true_and] at h4
    exact ⟨by rw [h1, h3], h4⟩
theorem txt_inj {nm : Nat → Str} {n : Nat} (N : Nm nm n) {t u : Tr} (ht : ∀ x ∈ t.nm, x < n) (hu : ∀ x ∈ u.nm, x < n) (e : txt nm t = txt nm u) : t = u :=
  (txt_parse N (r := []) (s := []) ht hu (fun _ _ e => by cases e) (fun _ _ e => by cases e) (by rw [e])).1
section
variable {P : Program} {w : World} {K : PySem.W.Frag} {mg : Str → Option Value} {base : Heap} {f : Addr} {fd : FuncData} {nm : Nat → Str} {n : Nat}
def spText (nm : Nat → Str) (n h : Nat) : Sp := Pur (ι := Tr) (fun t vs H => ∃ v, vs = [v] ∧ TrV nm H v t ∧ Wf n t ∧ t.sz ≤ h) (fun t _ _ r => r = .str (txt nm t))
def StV (_ : Hp) (v : V) (s : Str) : Prop := v = .str s
theorem tm_st : TM StV := fun _ _ _ _ _ h => h
theorem strs_of {H : Hp} {xs : List V} {l : List Str} (h : P2 (StV H) xs l) : xs = l.map V.str := by
  induction h with
  | nil => rfl
  | cons r _ ih => rw [show _ = _ from r, ih]; rfl
theorem r_m1 {σ : L2.St} {H : Hp} {Q : VK} {to te : TE} {r : V → List V → Hp → VK → Prop} (h : to σ H fun x H1 => (∃ a, x = .str a) ∧ te σ H1 fun y H2 => r x [y] H2 Q) : tM1 r to te σ H Q := h
theorem sc__law_text : FnScope ["_law_tree_here", "_law_part"] ["_law_tree_here"] (defScope s_lawtext) := ⟨rfl, rfl, rfl, by decide +kernel, rfl, by decide +kernel, by decide +kernel⟩
theorem st__law_text (F : FnD K "_law_text" s_lawtext f fd) (B : Bi mg) (N : Nm nm n) {k h : Nat} (ih : Cal P w K mg base k "_law_text" ["_law_tree_here"] (spText nm n h)) : FnOk P w K mg base CX0 (k + 1) f fd ["_law_tree_here"] (spText nm n (h + 1)) := by
  refine F.ok sc__law_text (fun vs H Q E h => ?_) (fun cdv A outer s H vs Q E hr h => ?_)
  · obtain ⟨t, ⟨v, rfl, _⟩, _⟩ := h; rfl
  · obtain ⟨t, ⟨v, rfl, hv, hw, hs⟩, q⟩ := h
    refine ⟨_, PSs.nox (pss_cons (ps_if (pt_val (pe_callB (isiQ K) (by rfl) B.isinstance boot_isinstance (pa_cons (pv 0) (pa_cons (pe_bltn (v := .ty "str") (by rfl) B.str boot_str rfl) pa_nil)))) (pss_one (ps_ret (pv 0))) pss_nil)
      (pss_one (ps_ret (pe_op op_add_str (pe_op op_add_str (pe_str) (pe_join (pe_str) (pe_lc (own := [("_law_part", 1)]) rfl sc__law_text.nd (piT K (pv 0)) (blkOk_by (N := ["_law_tree_here", "_law_part"]) (sc := defScope s_lawtext) (by decide +kernel)) (fun _ _ _ _ _ => (pg_name (i := 1) sc__law_text.nd rfl (by first | exact Or.inl rfl | exact Or.inr rfl))) (fun _ _ _ _ _ => pts_nil) (fun _ _ _ _ _ => (pe_cal ih (hr.mono (by first | decide | omega)) (pa_cons (pv 1) pa_nil)))))) (pe_str))))), ?_⟩
    refine r_seq (r_if (gt_use (gt_gv (gv_isStr (gv_var rfl hv))) fun H1 s1 => ?_))
    have h9 := hw.sz N.few
    cases hv with
    | lf i => exact iteT (r_ret (r_var rfl (q _ _ s1 rfl)))
    | @fk p y z a b e h1 h2 =>
      have hv : TrV nm H (.ref p) (.fk a b) := .fk e h1 h2
      simp only [Tr.sz] at hs h9
      have la := len_txt N hw.l.lt
      have lb := len_txt N hw.r.lt
      have lab := len_txt N hw.lt
      simp only [Tr.sz] at lab
      have l2 : (Str.ofString "(").length = 1 ∧ (Str.ofString ",").length = 1 ∧ (Str.ofString ")").length = 1 := by decide +kernel
      have ej : Txt.join (Str.ofString ",") [txt nm a, txt nm b] = Str.join (Str.ofString ",") [txt nm a, txt nm b] := eq_of_beq (join_closes rfl)
      have lj := StrLaws.join_length_le (Str.ofString ",") [txt nm a, txt nm b]
      simp only [List.map_cons, List.map_nil, List.sum_cons, List.sum_nil, List.length_cons, List.length_nil] at lj
      have hsl : (100000 : Nat) ≤ sizeLine := by decide
      refine iteF (r_next ?_)
      dsimp only
      refine r_ret ?_
      refine r_op ?_
      refine r_op ?_
      refine r_c ?_
      refine r_m1 ?_
      refine r_c ⟨⟨_, rfl⟩, gv_use (gv_lcT0 (fun c => txt nm c) (fun as => as = [a, b]) tm_tr tm_st (gv_var (R := fun H r => ∃ as, as = [a, b] ∧ SqTV K (TrV nm) H r as) rfl ⟨_, rfl, (tm_tr.same s1 hv).tup.sq⟩) (fun _ e => by rw [e]; simp) (fun _ => rfl) ?_) fun r H2 s2 ⟨_, e, p2, xs, er, _, hp2, rr⟩ => ?_⟩
      · rintro _ x c H2 rfl hc s2 rx
        refine gv_call1 (gv_var rfl rx) fun y H3 s3 ry => ⟨c, ⟨y, rfl, ry, ?_⟩, fun r H4 s4 z => z⟩
        rcases List.mem_cons.mp hc with rfl | hc
        · exact ⟨hw.l, by omega⟩
        · rw [List.mem_singleton.mp hc]; exact ⟨hw.r, by omega⟩
      · subst e
        have ex := strs_of rr
        rw [ex] at hp2
        refine ⟨Str.ofString ",", p2, [txt nm a, txt nm b], rfl, by rw [er], .inl (SqL.of hp2), by simp only [List.map_cons, List.map_nil, List.sum_cons, List.sum_nil, List.length_cons, List.length_nil]; omega, ?_⟩
        rw [ej]
        refine ⟨_, _, rfl, rfl, by omega, r_c ⟨_, _, rfl, rfl, ?_, q _ _ (s1.trans s2) rfl⟩⟩
        have la2 : ∀ x y : Str, (x ++ y).length = x.length + y.length := fun x y => by
          show (x.cps ++ y.cps).size = _
          rw [Array.size_append]; rfl
        rw [la2]
        omega
theorem ok__law_text (F : FnD K "_law_text" s_lawtext f fd) (B : Bi mg) (N : Nm nm n) (m : mg "_law_text" = some (.ref f)) : ∀ h, FnOk P w K mg base CX0 (h + 1) f fd ["_law_tree_here"] (spText nm n h)
  | 0 => ⟨fun vs H Q E ⟨t, ⟨v, e, _⟩, _⟩ => by rw [e]; rfl, fun _ _ _ _ _ _ _ _ _ _ _ _ _ ⟨t, ⟨_, _, _, _, h⟩, _⟩ => absurd h (by have := sz_pos t; omega)⟩
  | h + 1 => st__law_text F B N (cal_mk F (ok__law_text F B N m h) m (bd1 fun _ _ _ _ _ _ _ => by first | rfl | kernel_rfl))
end
end Jw
end

section
set_option Elab.async false
set_option linter.all false
set_option maxRecDepth 100000
set_option maxHeartbeats 4000000
/-! The law's own defs: pen, draw. -/
namespace Jw
open PySem PySem.Spec PyProof.Rows L2 Jt JH
def kC : Key := .inr "cells"
def kA : Key := .inr "at"
def kL : Key := .inr "left"
def penK (c : Addr) (a l : Int) : List (Key × V) := [(kC, .ref c), (kA, .int a), (kL, .int l)]
theorem ne_pen : kC ≠ kA ∧ kC ≠ kL ∧ kA ≠ kL := by decide +kernel
theorem pen_c (c : Addr) (a l : Int) : valV (penK c a l) kC = some (.ref c) := valV_pos rfl
theorem pen_a (c : Addr) (a l : Int) : valV (penK c a l) kA = some (.int a) := by
  obtain ⟨h1, h2, h3⟩ := ne_pen
  unfold penK
  rw [valV_neg h1, valV_pos rfl]
theorem pen_l (c : Addr) (a l : Int) : valV (penK c a l) kL = some (.int l) := by
  obtain ⟨h1, h2, h3⟩ := ne_pen
  unfold penK
  rw [valV_neg h2, valV_neg h3, valV_pos rfl]
theorem put_a (c : Addr) (a l b : Int) : putK (penK c a l) kA (.int b) = penK c b l := by
  obtain ⟨h1, h2, h3⟩ := ne_pen
  simp [putK, penK, h1, h2, Ne.symm h3]
theorem put_l (c : Addr) (a l b : Int) : putK (penK c a l) kL (.int b) = penK c a b := by
  obtain ⟨h1, h2, h3⟩ := ne_pen
  simp [putK, penK, h1, h2, h3]
theorem pen_new (c : Addr) : mergeK [] [(kC, .ref c), (kA, .int 0), (kL, .int 0)] = penK c 0 0 := by
  obtain ⟨h1, h2, h3⟩ := ne_pen
  simp [mergeK, putK, penK, h1, h2, h3]
/-- a pen: no more than k draws of it -/
structure Pen (d c : Addr) (k : Nat) (H : Hp) : Prop where
  ex : ∃ (a : Nat) (l : Int) (ns : List Int), H d = some (.dK (penK c a l)) ∧ H c = some (.lst (ns.map V.int)) ∧ ns.length ≤ 63 ∧ a ≤ k
/-- all but the pen stands as it was -/
def Oth (d : Addr) (H H' : Hp) : Prop := ∀ a o, a ≠ d → H a = some o → H' a = some o
theorem Oth.refl (d : Addr) (H : Hp) : Oth d H H := fun _ _ _ h => h
theorem Oth.trans {d : Addr} {H H1 H2 : Hp} (a : Oth d H H1) (b : Oth d H1 H2) : Oth d H H2 := fun x o n h => b x o n (a x o n h)
theorem oth_same {d : Addr} {H H' : Hp} (s : Same H H') : Oth d H H' := fun x o _ h => s x o h
theorem oth_upd {d : Addr} {H : Hp} (o : HO) : Oth d H (upd H d o) := fun x _ n h => by rw [upd_ne n]; exact h
theorem Oth.tups {d : Addr} {H H' : Hp} {kvs : List (Key × V)} (h : Oth d H H') (hd : H d = some (.dK kvs)) : Tups H H' := fun x o hx hn => by
  by_cases e : x = d
  · subst e
    rw [hd] at hx
    cases hx
    exact hn.elim
  · exact h x o e hx
theorem Oth.from {d : Addr} {H0 H H' : Hp} (h : Oth d H H') (s : Same H0 H) (hd : H0 d = none) : Same H0 H' := fun x o hx => h x o (fun e => by rw [e, hd] at hx; cases hx) (s x o hx)
theorem Pen.tups {d c : Addr} {k : Nat} {H H' : Hp} (p : Pen d c k H) (h : Oth d H H') : Tups H H' := let ⟨_, _, _, e, _⟩ := p.ex; h.tups e
theorem Pen.same {d c : Addr} {k : Nat} {H H' : Hp} (p : Pen d c k H) (s : Same H H') : Pen d c k H' := let ⟨a, l, ns, e1, e2, r⟩ := p.ex; ⟨a, l, ns, s _ _ e1, s _ _ e2, r⟩
theorem Pen.le {d c : Addr} {k j : Nat} {H : Hp} (p : Pen d c k H) (h : k ≤ j) : Pen d c j H := let ⟨a, l, ns, e1, e2, e3, e4⟩ := p.ex; ⟨a, l, ns, e1, e2, e3, Nat.le_trans e4 h⟩
theorem Pen.ne {d c : Addr} {k : Nat} {H : Hp} (p : Pen d c k H) : c ≠ d := let ⟨_, _, _, e1, e2, _⟩ := p.ex; fun e => by rw [e, e1] at e2; cases e2
section
variable {P : Program} {w : World} {K : PySem.W.Frag} {mg : Str → Option Value} {base : Heap} {f : Addr} {fd : FuncData} {nm : Nat → Str} {n : Nat}
def spPen (K : PySem.W.Frag) : Sp := Pur (ι := List Int) (fun ns vs H => ∃ a, vs = [.ref a] ∧ SqL K H a (ns.map V.int)) (fun _ H0 H r => ∃ d c, r = .ref d ∧ H0 d = none ∧ H0 c = none ∧ Pen d c 0 H)
theorem sc__law_pen : FnScope ["_law_script"] ["_law_script"] (defScope s_lawpen) := ⟨rfl, rfl, rfl, by decide +kernel, rfl, by decide +kernel, by decide +kernel⟩
theorem ok__law_pen (F : FnD K "_law_pen" s_lawpen f fd) (B : Bi mg) : FnOk P w K mg base CX0 1 f fd ["_law_script"] (spPen K) := by
  refine F.ok sc__law_pen (fun vs H Q E h => ?_) (fun cdv A outer s H vs Q E hr h => ?_)
  · obtain ⟨_, ⟨_, rfl, _⟩, _⟩ := h; rfl
  · obtain ⟨ns, ⟨a, rfl, ha⟩, q⟩ := h
    refine ⟨_, PSs.nox (pss_one (ps_ret (pe_disp (pps_cons (pe_str) (pe_callTy (listQ K) (by rfl) B.list boot_list (pa_cons (pe_slice (slL K) (pv 0) po_none (po_some (pe_int))) pa_nil)) (pps_cons (pe_str) (pe_int) (pps_cons (pe_str) (pe_int) pps_nil))) rfl rfl (by simp) (by decide)))), ?_⟩
    refine r_ret fun d hd => ?_
    refine r_c ?_
    have s1 : Same H (upd H d (.dK [])) := same_new hd _
    refine r_b1 (r_slNS (r_var rfl (r_c ⟨63, rfl, a, ns.map V.int, rfl, s1.seq ha, fun l hl => ⟨l, cutV (ns.map V.int) none (some 63), rfl, .inl (SqL.of upd_same), fun c hc => ?_⟩⟩)))
    have s2 : Same (upd H d (.dK [])) (upd (upd (upd H d (.dK [])) l (.lst (cutV (ns.map V.int) none (some 63)))) c (.lst (cutV (ns.map V.int) none (some 63)))) := (same_new hl _).trans (same_new hc _)
    have hcc : upd (upd (upd H d (.dK [])) l (.lst (cutV (ns.map V.int) none (some 63)))) c (.lst (cutV (ns.map V.int) none (some 63))) c = some (.lst (cutV (ns.map V.int) none (some 63))) := upd_same
    have hcH : H c = none := (s1.trans (same_new hl _)).free hc
    generalize upd (upd (upd H d (.dK [])) l (.lst (cutV (ns.map V.int) none (some 63)))) c (.lst (cutV (ns.map V.int) none (some 63))) = H2 at s2 hcc ⊢
    have hd2 : H2 d = some (.dK []) := s2 _ _ upd_same
    refine r_c (r_c (r_c (r_c ⟨hd2, [(kC, .ref c), (kA, .int 0), (kL, .int 0)], rfl, by simp, ?_⟩)))
    rw [pen_new]
    have hcd : c ≠ d := fun e => by rw [e, hd2] at hcc; cases hcc
    refine q _ _ (same_mut (s1.trans s2) hd) ⟨d, c, rfl, hd, hcH, ⟨0, 0, ns.take 63, upd_same, ?_, by rw [List.length_take]; omega, Nat.le_refl _⟩⟩
    rw [upd_ne hcd, hcc]
    have := cut_take (ns.map V.int) 63
    rw [List.map_take]
    exact congrArg _ (congrArg _ this)
/-! ### _law_draw -/
def spDraw : Sp := fun vs H Q _ => ∃ (d c : Addr) (k : Nat) (m : Int), vs = [.ref d, .int m] ∧ 0 < m ∧ m < 1000000 ∧ k ≤ 1000000 ∧ Pen d c k H ∧ ∀ (j : Nat) H', (j : Int) < m → Oth d H H' → Pen d c (k + 1) H' → Q (.int j) H'
theorem sh_ints (ns : List Int) : SeqAt.shaped (.list (ns.map PyData.int)) = true :=
  shaped_of (by simp only [PyData.canLay0]; exact lay_map _ ns fun z hz => by simp [PyData.canLay0]) (by have := depth_map PyData.int 0 ns (fun l _ => by simp [PyData.depth]); simp only [PyData.depth]; omega)
theorem dp_ints {H : Hp} {c : Addr} {ns : List Int} (h : H c = some (.lst (ns.map V.int))) : Dp K H (.ref c) (.list (ns.map PyData.int)) := by
  refine .lst (SqL.of h) ?_
  clear h
  induction ns with
  | nil => exact .nil
  | cons n ns ih => exact .cons (.int n) ih
theorem r_dget {σ : L2.St} {H : Hp} {Q : VK} {i : Nat} {d : Addr} {kvs : List (Key × V)} {k : Key} {v : V} (hx : σ[i]? = some (some (.ref d))) (hd : H d = some (.dK kvs)) (hv : valV kvs k = some v) (q : Q v H) : tDGet (tVar i) (tC (kV k)) σ H Q :=
  r_var hx (r_c ⟨d, v, rfl, by rw [← hv]; exact DGet.k hd, q⟩)
theorem gv_dget {σ : L2.St} {H : Hp} {R : Hp → V → Prop} {i : Nat} {d : Addr} {kvs : List (Key × V)} {k : Key} {v : V} (hx : σ[i]? = some (some (.ref d))) (hd : H d = some (.dK kvs)) (hv : valV kvs k = some v) (r : R H v) : Gv (tDGet (tVar i) (tC (kV k))) σ H R := fun Q q => r_dget hx hd hv (q _ _ (Same.refl _) r)
theorem gv_lenC {te : TE} {σ : L2.St} {H : Hp} {c : Addr} {ns : List Int} (h : Gv te σ H fun _ v => v = .ref c) (hc : H c = some (.lst (ns.map V.int))) : Gv (tCB (rLenQ K) (tCons te tNil)) σ H fun _ r => r = .int (ns.length : Nat) :=
  gv_len (n := ns.length) (gv_imp h fun r H1 s1 e => ⟨c, _, e, .inl (SqL.of (s1 _ _ hc)), by simp⟩)
theorem r_dput {td ty tv : TE} {D : Ends} {σ : L2.St} {H : Hp} (h : tv σ H fun v H1 => td σ H1 fun x H2 => ty σ H2 fun y H3 => ∃ a H4, x = .ref a ∧ DPut H3 a y v H4 ∧ D.nx σ H4) : sDPut td ty tv D σ H := h
theorem nat_mod (x : Int) {m : Int} (hm : 0 < m) : ∃ j : Nat, x % m = (j : Int) ∧ (j : Int) < m :=
  ⟨(x % m).toNat, (Int.toNat_of_nonneg (Int.emod_nonneg x (by omega))).symm, by rw [Int.toNat_of_nonneg (Int.emod_nonneg x (by omega))]; exact Int.emod_lt_of_pos x hm⟩
theorem sc__law_draw : FnScope ["_law_pen_here", "_law_many", "_law_found", "_law_at", "_law_cell", "_law_whole", "_law_one", "_law_two"] ["_law_pen_here", "_law_many"] (defScope s_lawdraw) := ⟨rfl, rfl, rfl, by decide +kernel, rfl, by decide +kernel, by decide +kernel⟩
theorem ok__law_draw (F : FnD K "_law_draw" s_lawdraw f fd) (B : Bi mg) : FnOk P w K mg base CX0 1 f fd ["_law_pen_here", "_law_many"] spDraw := by
  refine F.ok sc__law_draw (fun vs H Q E h => ?_) (fun cdv A outer s H vs Q E hr h => ?_)
  · obtain ⟨_, _, _, _, rfl, _⟩ := h; rfl
  · obtain ⟨d, c, k, m, rfl, hm0, hm1, hk, hp, q⟩ := h
    obtain ⟨a, l, ns, hd, hc, hns, hak⟩ := hp.ex
    have hcd := hp.ne
    have hu := hr.units
    have hu1 : A.units + 4 < cLine := by have := hr.un; have : (A.deeper (envOfC (Str.ofString "_law_draw") (defScope s_lawdraw) s.heap.objs.size f cdv)).units = A.units + 3 := rfl; omega
    refine ⟨_, PSs.nox (pss_cons (ps_if (pt_cmpR op_gt (pe_dget hu1 (pv 0) (pe_str) (fun _ _ => rfl)) (pe_int) (by rfl)) (pss_cons (ps_set (i := 2) sc__law_draw.nd rfl (by first | exact Or.inl rfl | exact Or.inr rfl) (pe_op op_mod (pe_dget hu1 (pv 0) (pe_str) (fun _ _ => rfl)) (pv 1)))
      (pss_cons (ps_dput hu1 (pv 0) (pe_str) (pe_op op_fdiv (pe_dget hu1 (pv 0) (pe_str) (fun _ _ => rfl)) (pv 1)) rfl)
      (pss_one (ps_ret (pv 2))))) pss_nil)
      (pss_cons (ps_set (i := 3) sc__law_draw.nd rfl (by first | exact Or.inl rfl | exact Or.inr rfl) (pe_dget hu1 (pv 0) (pe_str) (fun _ _ => rfl)))
      (pss_cons (ps_dput hu1 (pv 0) (pe_str) (pe_op op_add (pv 3) (pe_int)) rfl)
      (pss_cons (ps_set (i := 4) sc__law_draw.nd rfl (by first | exact Or.inl rfl | exact Or.inr rfl) (pe_op op_add (pe_op op_mul (pe_int) (pv 3)) (pe_int)))
      (pss_cons (ps_if (pt_cmpR (neD K hu) (pe_dget hu1 (pv 0) (pe_str) (fun _ _ => rfl)) (pe_lst pa_nil) (by rfl)) (pss_one (ps_set (i := 4) sc__law_draw.nd rfl (by first | exact Or.inl rfl | exact Or.inr rfl) (pe_ix (ixL K) (pe_dget hu1 (pv 0) (pe_str) (fun _ _ => rfl)) (pe_op op_mod (pv 3) (pe_callB (lenQ K) (by rfl) B.len boot_len (pa_cons (pe_dget hu1 (pv 0) (pe_str) (fun _ _ => rfl)) pa_nil))) (fun _ _ => rfl)))) pss_nil)
      (pss_cons (ps_if ((pw_and (pt_cmpR op_lt (pv 3) (pe_callB (lenQ K) (by rfl) B.len boot_len (pa_cons (pe_dget hu1 (pv 0) (pe_str) (fun _ _ => rfl)) pa_nil)) (by rfl)) (pw_and1 (pt_cmpR op_ge (pe_callB call_abs (by rfl) B.abs boot_abs (pa_cons (pv 4) pa_nil)) (pe_op op_pow (pe_int) (pe_int)) (by rfl)))).pt) (pss_cons (ps_set (i := 5) sc__law_draw.nd rfl (by first | exact Or.inl rfl | exact Or.inr rfl) (pe_op op_add (pe_op op_mul (pe_int) (pe_callB call_abs (by rfl) B.abs boot_abs (pa_cons (pv 4) pa_nil))) (pe_callTy call_int1 (by rfl) B.int boot_int (pa_cons (pe_cmpR op_lt (pv 4) (pe_int) (by rfl)) pa_nil))))
      (pss_cons (ps_dput hu1 (pv 0) (pe_str) (pe_op op_fdiv (pv 5) (pv 1)) rfl)
      (pss_one (ps_ret (pe_op op_mod (pv 5) (pv 1)))))) pss_nil)
      (pss_cons (ps_set (i := 6) sc__law_draw.nd rfl (by first | exact Or.inl rfl | exact Or.inr rfl) (pe_op op_mod (pe_op op_pow (pe_op op_add (pe_op op_add (pe_op op_mod (pv 4) (pe_int)) (pe_op op_mul (pe_int) (pv 3))) (pe_int)) (pe_int)) (pe_int)))
      (pss_cons (ps_set (i := 7) sc__law_draw.nd rfl (by first | exact Or.inl rfl | exact Or.inr rfl) (pe_op op_mod (pe_op op_pow (pe_op op_add (pe_op op_mul (pv 6) (pe_op op_add (pv 3) (pe_int))) (pe_op op_mul (pe_op op_mul (pe_int) (pv 3)) (pv 3))) (pe_int)) (pe_int)))
      (pss_one (ps_ret (pe_op op_mod (pe_op op_fdiv (pv 7) (pe_int)) (pv 1)))))))))))), ?_⟩
    have big : 3 < sizeLine := by decide
    refine r_seq (r_if (gt_use (b := decide (0 < l)) (gt_test fun Q' q' => r_op (r_dget (k := kL) rfl hd (pen_l ..) (r_c ⟨_, _, rfl, rfl, q' _ _ (Same.refl _) rfl⟩))) fun H1 s1 => ?_))
    have hd1 := s1 _ _ hd
    have hc1 := s1 _ _ hc
    by_cases hl : 0 < l
    · rw [decide_eq_true hl]
      obtain ⟨j, hj, hjm⟩ := nat_mod l hm0
      refine iteT (r_seq (r_asg (r_op (r_dget (k := kL) rfl hd1 (pen_l ..) (r_var rfl ⟨_, _, rfl, rfl, hm0, ?_⟩)))))
      refine r_seq (r_dput (r_op (r_dget (k := kL) rfl hd1 (pen_l ..) (r_var rfl ⟨_, _, rfl, rfl, ⟨hm0, by omega⟩, r_var rfl (r_c ⟨d, _, rfl, DPut.k (k := kL) hd1 big, ?_⟩)⟩))))
      rw [put_l]
      refine r_ret (r_var rfl ?_)
      show Q (.int (l % m)) _
      rw [hj]
      refine q j _ hjm ((oth_same s1).trans (oth_upd _)) ⟨a, _, ns, upd_same, by rw [upd_ne hcd]; exact hc1, hns, by omega⟩
    · rw [decide_eq_false hl]
      refine iteF (r_next (r_seq (r_asg (r_dget (k := kA) rfl hd1 (pen_a ..) ?_))))
      refine r_seq (r_dput (r_op (r_var rfl (r_c ⟨_, _, rfl, rfl, r_var rfl (r_c ⟨d, _, rfl, DPut.k (k := kA) hd1 big, ?_⟩)⟩))))
      rw [put_a]
      have o2 : Oth d H (upd H1 d (.dK (penK c ((a : Int) + 1) l))) := (oth_same s1).trans (oth_upd _)
      have hd2 : upd H1 d (.dK (penK c ((a : Int) + 1) l)) d = some (.dK (penK c ((a : Int) + 1) l)) := upd_same
      have hc2 : upd H1 d (.dK (penK c ((a : Int) + 1) l)) c = some (.lst (ns.map V.int)) := by rw [upd_ne hcd]; exact hc1
      generalize upd H1 d (.dK (penK c ((a : Int) + 1) l)) = H2 at o2 hd2 hc2 ⊢
      refine r_seq (r_asg (r_op (r_op (r_c (r_var rfl ⟨_, _, rfl, rfl, .inl ⟨by decide, by decide⟩, r_c ⟨_, _, rfl, rfl, ?_⟩⟩)))))
      dsimp only
      refine r_seqI (fun σ H' => Same H2 H' ∧ ∃ cell : Int, σ = [some (.ref d), some (.int m), none, some (.int a), some (.int cell), none, none, none]) (fun nx' hnx => ?_) ?_
      · refine r_if (gt_use (b := decide (ns ≠ [])) (gt_test (gv_imp (gv_neD (K := K) (da := .list (ns.map PyData.int)) (db := .list []) (gv_dget (R := fun H r => r = .ref c ∧ H c = some (.lst (ns.map V.int))) (k := kC) rfl hd2 (pen_c ..) ⟨rfl, hc2⟩) (fun H4 s4 => gv_emptyL (α := Str) (RA := StV)) (fun x y H4 H5 s4 ⟨ex, hx⟩ s5 ⟨p, ys, ey, hy, ry⟩ => ⟨by rw [ex]; exact dp_ints (s5 _ _ hx), by rw [ey]; cases ry; exact .lst (SqL.of hy) .nil⟩) (sh_ints ns) sh_nilL) fun r H3 _ e => ?_)) fun H3 s3 => ?_)
        · rw [e]
          cases ns <;> simp [PyData.eqv, PyData.eqvAll]
        · by_cases hn : ns = []
          · rw [decide_eq_false (fun z => z hn)]
            exact iteF (r_next (hnx _ _ ⟨s3, _, rfl⟩))
          · rw [decide_eq_true hn]
            have hpos := List.length_pos_iff.mpr hn
            have hd3 := s3 _ _ hd2
            have hc3 := s3 _ _ hc2
            have hlt : a % ns.length < ns.length := Nat.mod_lt _ hpos
            refine iteT (r_asg (r_op (r_dget (k := kC) rfl hd3 (pen_c ..) (r_op (r_var rfl (gv_use (gv_lenC (gv_dget (R := fun _ r => r = .ref c) (k := kC) rfl hd3 (pen_c ..) rfl) hc3) fun y H4 s4 ey => ⟨_, _, rfl, ey, by omega, c, ns.map V.int, _, .int (ns[a % ns.length]'hlt), rfl, rfl, SqL.of (s4 _ _ hc3), ?_, hnx _ _ ⟨s3.trans s4, _, rfl⟩⟩))))))
            have : ((a : Int) % (ns.length : Nat)) = ((a % ns.length : Nat) : Int) := by omega
            rw [this]
            exact atI_nat (by rw [List.getElem?_map, List.getElem?_eq_getElem hlt]; rfl)
      · rintro σ H3 ⟨s3, cell, rfl⟩
        have hd3 := s3 _ _ hd2
        have hc3 := s3 _ _ hc2
        have o3 := o2.trans (oth_same (d := d) s3)
        refine r_seq (r_if (gt_use (b := decide ((a : Int) < (ns.length : Nat)) && decide ((10 : Int) ^ 18 ≤ (if cell < 0 then -cell else cell))) (gt_and2 (gt_test fun Q' q' => r_op (r_var rfl (gv_use (gv_lenC (gv_dget (R := fun _ r => r = .ref c) (k := kC) rfl hd3 (pen_c ..) rfl) hc3) fun y H4 s4 ey => ⟨_, _, rfl, ey, q' _ _ s4 rfl⟩))) fun _ H4 s4 => gt_test fun Q' q' => r_op (r_b1 (r_var rfl ⟨_, rfl, r_op (r_c (r_c ⟨_, _, rfl, rfl, ⟨by decide, by decide, by decide⟩, _, _, rfl, rfl, q' _ _ (Same.refl _) rfl⟩))⟩))) fun H4 s4 => ?_))
        have hd4 := s4 _ _ hd3
        have hc4 := s4 _ _ hc3
        have o4 := o3.trans (oth_same (d := d) s4)
        cases hb : (decide ((a : Int) < (ns.length : Nat)) && decide ((10 : Int) ^ 18 ≤ (if cell < 0 then -cell else cell))) with
        | true =>
          refine iteT (r_seq (r_asg (r_op (r_op (r_c (r_b1 (r_var rfl ⟨_, rfl, _, _, rfl, rfl, .inl ⟨by decide, by decide⟩, r_b1 (r_op (r_var rfl (r_c ⟨_, _, rfl, rfl, .inr ⟨_, rfl, _, _, rfl, rfl, ?_⟩⟩)))⟩)))))))
          refine r_seq (r_dput (r_op (r_var rfl (r_var rfl ⟨_, _, rfl, rfl, ⟨hm0, by omega⟩, r_var rfl (r_c ⟨d, _, rfl, DPut.k (k := kL) hd4 big, ?_⟩)⟩))))
          rw [put_l]
          refine r_ret (r_op (r_var rfl (r_var rfl ⟨_, _, rfl, rfl, hm0, ?_⟩)))
          obtain ⟨j, hj, hjm⟩ := nat_mod (2 * (if cell < 0 then -cell else cell) + (if decide (cell < 0) then 1 else 0)) hm0
          show Q (.int ((2 * (if cell < 0 then -cell else cell) + (if decide (cell < 0) then 1 else 0)) % m)) _
          rw [hj]
          refine q j _ hjm (o4.trans (oth_upd _)) ⟨a + 1, _, ns, upd_same, by rw [upd_ne hcd]; exact hc4, hns, by omega⟩
        | false =>
          have hm1' : 0 ≤ cell % 2147483549 ∧ cell % 2147483549 < 2147483549 := ⟨Int.emod_nonneg _ (by decide), Int.emod_lt_of_pos _ (by decide)⟩
          refine iteF (r_next (r_seq (r_asg (r_op (r_op (r_op (r_op (r_op (r_var rfl (r_c ⟨_, _, rfl, rfl, (by decide : (0 : Int) < 2147483549), r_op (r_c (r_var rfl ⟨_, _, rfl, rfl, .inl ⟨by decide, by decide⟩, _, _, rfl, rfl, r_c ⟨_, _, rfl, rfl, r_c ⟨_, _, rfl, rfl, ⟨by decide, by decide, ?_⟩, r_c ⟨_, _, rfl, rfl, (by decide : (0 : Int) < 2147483647), ?_⟩⟩⟩⟩))⟩))))))))))
          · omega
          · dsimp only
            generalize ho1 : (cell % 2147483549 + 73009 * (a : Int) + 71) ^ Int.toNat 5 % 2147483647 = one
            have h1 : 0 ≤ one ∧ one < 2147483647 := by
              rw [← ho1]
              exact ⟨Int.emod_nonneg _ (by decide), Int.emod_lt_of_pos _ (by decide)⟩
            have ha0 : (0 : Int) ≤ a ∧ (a : Int) ≤ 1000000 := by omega
            have k1 : 0 ≤ one * ((a : Int) + 65557) ∧ one * ((a : Int) + 65557) ≤ 2147483647 * 1065557 := ⟨Int.mul_nonneg h1.1 (by omega), Int.mul_le_mul (by omega) (by omega) (by omega) (by decide)⟩
            have k2 : 0 ≤ 84991 * (a : Int) * a ∧ 84991 * (a : Int) * a ≤ 84991000000 * 1000000 := ⟨Int.mul_nonneg (by omega) ha0.1, Int.mul_le_mul (by omega) (by omega) (by omega) (by decide)⟩
            refine r_seq (r_asg ?_)
            refine r_op (r_op (r_op (r_op (r_var rfl ?_))))
            refine r_op (r_var rfl (r_c ⟨_, _, rfl, rfl, _, _, rfl, rfl, .inl ⟨by omega, by omega⟩, ?_⟩))
            refine r_op (r_op (r_c (r_var rfl ⟨_, _, rfl, rfl, .inl ⟨by decide, by decide⟩, ?_⟩)))
            refine r_var rfl ⟨_, _, rfl, rfl, .inl ⟨by omega, by omega⟩, ?_⟩
            refine ⟨_, _, rfl, rfl, r_c ⟨_, _, rfl, rfl, ⟨by decide, by decide, ?_⟩, r_c ⟨_, _, rfl, rfl, (by decide : (0 : Int) < 2147483423), ?_⟩⟩⟩
            · omega
            · refine r_ret (r_op (r_op (r_var rfl (r_c ⟨_, _, rfl, rfl, ⟨by decide, by decide⟩, r_var rfl ⟨_, _, rfl, rfl, hm0, ?_⟩⟩))))
              obtain ⟨j, hj, hjm⟩ := nat_mod ((one * ((a : Int) + 65557) + 84991 * (a : Int) * a) ^ Int.toNat 3 % 2147483423 / 32) hm0
              show Q (.int ((one * ((a : Int) + 65557) + 84991 * (a : Int) * a) ^ Int.toNat 3 % 2147483423 / 32 % m)) _
              rw [hj]
              exact q j _ hjm o4 ⟨a + 1, _, ns, hd4, hc4, hns, by omega⟩
end
end Jw
end

section
set_option Elab.async false
set_option linter.all false
set_option maxRecDepth 100000
set_option maxHeartbeats 4000000
/-! The law's own defs: names. -/
namespace Jw
open PySem PySem.Spec PyProof.Rows L2 Jt JH
def pool : List Str := ["a", "aa", "ab", "b", "ba", "c", "d", "e", "zz", "zzzzzzzz", "m", "ma", "n"]
theorem pool_nd : pool.Nodup := by decide +kernel
theorem pool_ok : ∀ s ∈ pool, (1 ≤ s.length ∧ s.length ≤ 8) ∧ (∀ c ∈ s.cps.toList, 97 ≤ c ∧ c ≤ 122) ∧ PyData.strOk s = true := by decide +kernel
theorem oth_mut {d D : Addr} {H H' : Hp} {o : HO} (h : Oth d H H') (hD : H D = none) : Oth d H (upd H' D o) := fun x o' n hx => by
  rw [upd_ne (fun e => by rw [e, hD] at hx; cases hx)]; exact h x o' n hx
theorem lt_of_srt {a b : Str} (h : PySem.W.dataLt (.str b) (.str a) = false) (hne : a ≠ b) : a.cps.toList < b.cps.toList := by
  refine Classical.byContradiction fun k => hne ?_
  have h2 : PySem.W.dataLt (.str a) (.str b) = false := by rw [PySem.W.dataLt_str]; exact decide_eq_false k
  have := tok_anti h2 h
  simp only [PySem.W.keyToks, List.cons.injEq, Sum.inr.injEq, and_true] at this
  exact PySem.W.str_of_cps this
theorem nm_of {bs : List Str} (hs : bs.Pairwise fun a b => PySem.W.dataLt (.str b) (.str a) = false) (hn : bs.Nodup) (hm : ∀ s ∈ bs, s ∈ pool) (hl : bs.length ≤ 5) : Nm (fun i => bs.getD i "") bs.length where
  lt := fun i j hij hj => by
    have hi : i < bs.length := by omega
    show (bs.getD i "").cps.toList < (bs.getD j "").cps.toList
    rw [List.getD_eq_getElem?_getD, List.getD_eq_getElem?_getD, List.getElem?_eq_getElem hi, List.getElem?_eq_getElem hj]
    refine lt_of_srt (List.pairwise_iff_getElem.mp hs i j hi hj hij) fun e => ?_
    exact absurd (List.pairwise_iff_getElem.mp hn i j hi hj hij) (fun z => z e)
  len := fun i hi => by
    show 1 ≤ (bs.getD i "").length ∧ (bs.getD i "").length ≤ 8
    rw [List.getD_eq_getElem?_getD, List.getElem?_eq_getElem hi]
    exact (pool_ok _ (hm _ (List.getElem_mem hi))).1
  low := fun i hi => by
    show ∀ c ∈ (bs.getD i "").cps.toList, 97 ≤ c ∧ c ≤ 122
    rw [List.getD_eq_getElem?_getD, List.getElem?_eq_getElem hi]
    exact (pool_ok _ (hm _ (List.getElem_mem hi))).2.1
  few := hl
theorem map_getD (bs : List Str) : bs = (List.range bs.length).map fun i => bs.getD i "" := by
  refine List.ext_getElem (by simp) fun i h1 h2 => ?_
  simp [List.getD_eq_getElem?_getD, List.getElem?_eq_getElem h1]
theorem P2.unmap {α β γ : Type} {R : α → γ → Prop} {g : β → γ} : ∀ {xs : List α} {l : List β}, P2 R xs (l.map g) → P2 (fun a b => R a (g b)) xs l
  | _, [], h => by cases h; exact .nil
  | _, b :: l, h => by
    cases h with
    | cons r h => exact .cons r (P2.unmap h)
theorem seqIx_nat {j n : Nat} (h : j < n) : seqIndex? (j : Int) n = some j := by
  unfold seqIndex?
  have h1 : ¬ (j : Int) < 0 := by omega
  simp only [h1, if_false]
  have : (decide (0 ≤ (j : Int)) && decide ((j : Int) < (n : Nat))) = true := by
    rw [decide_eq_true (by omega), decide_eq_true (by omega)]; rfl
  rw [if_pos this, Int.toNat_natCast]
theorem seqIx_last {n : Nat} (h : 0 < n) : seqIndex? (-1) n = some (n - 1) := by
  unfold seqIndex?
  have h1 : (-1 : Int) < 0 := by omega
  simp only [h1, if_true]
  have : (decide (0 ≤ (-1 : Int) + (n : Nat)) && decide ((-1 : Int) + (n : Nat) < (n : Nat))) = true := by
    rw [decide_eq_true (by omega), decide_eq_true (by omega)]; rfl
  rw [if_pos this]
  congr 1
  omega
theorem erase_map {α β : Type} (g : α → β) : ∀ (l : List α) (j : Nat), (l.map g).eraseIdx j = (l.eraseIdx j).map g
  | [], j => by simp
  | a :: l, 0 => by simp
  | a :: l, j + 1 => by simp [erase_map g l j]
theorem erase_perm {α : Type} : ∀ {l : List α} {j : Nat} {x : α}, l[j]? = some x → l.Perm (x :: l.eraseIdx j)
  | [], j, x, h => by simp at h
  | a :: l, 0, x, h => by simp at h; subst h; exact List.Perm.refl _
  | a :: l, j + 1, x, h => by
    simp only [List.getElem?_cons_succ] at h
    exact ((erase_perm h).cons a).trans (List.Perm.swap _ _ _)
section
variable {P : Program} {w : World} {K : PySem.W.Frag} {mg : Str → Option Value} {base : Heap} {f : Addr} {fd : FuncData} {nm : Nat → Str} {n : Nat}
theorem pe_bmK {X : Cx} (K : PySem.W.Frag) {o e : Expr} {es : List Expr} {to : TE} {t : TA} {name : Str} {apos cpos : Pos} {T id : String} {r : V → List V → Hp → VK → Prop} (pa : PlainAttrs T) (slot : Slot T name id) (hty : typeOf (.builtin id) = pure (.type "method_descriptor")) (hm : MtR X id r) (ho : PE X o to) (ha : PA X (e :: es) t) (hK : X.K = K := by rfl)
    (hbase : attributeBase o name X.env (eval o X.env) = eval o X.env := by rfl)
    (hfew : ((backTo cpos (starEach (e :: es) X.env)).all (fun x => !x.1) && (backToKw cpos (keywordEach [] X.env)).all (fun x => x.1.isSome)
      && decide ((e :: es).length + ([] : List Keyword).length + (if ([] : List Keyword).isEmpty then 0 else 1) < 30)) = true := by rfl)
    (hline : (apos.endLine == cpos.line) = true := by rfl) (hs : starEach (e :: es) X.env = (false, eval e X.env) :: starEach es X.env := by rfl) (hplain : (backTo cpos (starEach es X.env)).any (·.1) = false := by rfl) :
    PE X (.Call (.Attribute o name apos) (e :: es) [] cpos) (tBM K T r to t) := hK ▸ pe_bm pa slot hty hm ho ha hbase hfew hline hs hplain
theorem r_lst {t : TA} {σ : L2.St} {H : Hp} {Q : VK} (h : t σ H fun xs H1 => xs.length ≤ sizeLine ∧ ∀ p, H1 p = none → Q (.ref p) (upd H1 p (.lst xs))) : tLst t σ H Q := h
theorem gv_pool {σ : L2.St} {H : Hp} {Q : VK} (h : ∀ p, H p = none → Q (.ref p) (upd H p (.lst (pool.map V.str)))) :
    tLst (tCons (tC (.str "a")) (tCons (tC (.str "aa")) (tCons (tC (.str "ab")) (tCons (tC (.str "b")) (tCons (tC (.str "ba")) (tCons (tC (.str "c")) (tCons (tC (.str "d")) (tCons (tC (.str "e")) (tCons (tC (.str "zz")) (tCons (tC (.str "zzzzzzzz")) (tCons (tC (.str "m")) (tCons (tC (.str "ma")) (tCons (tC (.str "n")) tNil))))))))))))) σ H Q :=
  r_lst (show (13 : Nat) ≤ sizeLine ∧ _ from ⟨by decide, h⟩)
def spNames : Sp := fun vs H Q _ => ∃ (d c : Addr) (k n : Nat), vs = [.ref d, .int n] ∧ 2 ≤ n ∧ n ≤ 5 ∧ k ≤ 1000 ∧ Pen d c k H ∧ ∀ r H' nm, Oth d H H' → Pen d c (k + n) H' → Nm nm n → LstN (NmV nm) H H' r (List.range n) → Q r H'
theorem sc__law_names : FnScope ["_law_pen_here", "_law_many", "_law_some", "_law_k"] ["_law_pen_here", "_law_many"] (defScope s_lawnames) := ⟨rfl, rfl, rfl, by decide +kernel, rfl, by decide +kernel, by decide +kernel⟩
theorem ok__law_names (F : FnD K "_law_names" s_lawnames f fd) (B : Bi mg) (c__law_draw : Cal P w K mg base 1 "_law_draw" ["_law_pen_here", "_law_many"] spDraw) : FnOk P w K mg base CX0 2 f fd ["_law_pen_here", "_law_many"] spNames := by
  refine F.ok sc__law_names (fun vs H Q E h => ?_) (fun cdv A outer s H vs Q E hr h => ?_)
  · obtain ⟨_, _, _, _, rfl, _⟩ := h; rfl
  · obtain ⟨d, c, k, n, rfl, hn2, hn5, hk, hp, q⟩ := h
    have hu := hr.units
    refine ⟨_, PSs.nox (pss_cons (ps_set (i := 2) sc__law_names.nd rfl (by first | exact Or.inl rfl | exact Or.inr rfl) (pe_lst (pa_cons (pe_str) (pa_cons (pe_str) (pa_cons (pe_str) (pa_cons (pe_str) (pa_cons (pe_str) (pa_cons (pe_str) (pa_cons (pe_str) (pa_cons (pe_str) (pa_cons (pe_str) (pa_cons (pe_str) (pa_cons (pe_str) (pa_cons (pe_str) (pa_cons (pe_str) pa_nil)))))))))))))))
      (pss_one (ps_ret (pe_callB (sortQ K hu) (by rfl) B.sorted boot_sorted (pa_cons (pe_lc (own := [("_law_k", 3)]) rfl sc__law_names.nd (pi_range1 (by rfl) B.range (pa_cons (pv 1) pa_nil)) (blkOk_by (N := ["_law_pen_here", "_law_many", "_law_some", "_law_k"]) (sc := defScope s_lawnames) (by decide +kernel)) (fun _ _ _ _ _ => (pg_name (i := 3) sc__law_names.nd rfl (by first | exact Or.inl rfl | exact Or.inr rfl))) (fun _ _ _ _ _ => pts_nil) (fun _ _ _ _ _ => (pe_bmK K PySem.F.plainAttrs_list PySem.F.slot_list_pop PySem.F.type_list_pop mt_popAt (pv 2) (pa_cons (pe_cal c__law_draw (hr.mono (by first | decide | omega)) (pa_cons (pv 0) (pa_cons (pe_callB (lenQ K) (by rfl) B.len boot_len (pa_cons (pv 2) pa_nil)) pa_nil))) pa_nil)))) pa_nil))))), ?_⟩
    have hsl : (100000 : Nat) ≤ sizeLine := by decide
    refine r_seq (r_asg (gv_pool fun p hpn => ?_))
    have s1 : Same H (upd H p (.lst (pool.map V.str))) := same_new hpn _
    have hp1 := hp.same s1
    have hpp : upd H p (.lst (pool.map V.str)) p = some (.lst (pool.map V.str)) := upd_same
    generalize upd H p (.lst (pool.map V.str)) = H1 at s1 hp1 hpp ⊢
    dsimp only
    refine r_ret (r_b1 ?_)
    refine r_var rfl ⟨n, rfl, by omega, by omega, ?_⟩
    rw [Int.toNat_natCast]
    intro D hD
    have hDH : H D = none := s1.free hD
    have hpD : p ≠ D := fun e => by rw [← e, hpp] at hD; cases hD
    refine lc_it (Qd := fun H2 => rSortQ K [.ref D] H2 Q) (walk_range (lo := 0) (n := n)) (fun i H' => Oth d H H' ∧ Pen d c (k + i) H' ∧ ∃ ps qs : List Str, H' p = some (.lst (qs.map V.str)) ∧ H' D = some (.lst (ps.map V.str)) ∧ (ps ++ qs).Perm pool ∧ ps.length = i) ⟨oth_mut (oth_same s1) hDH, hp1.same (same_new hD _), [], pool, by rw [upd_ne hpD]; exact hpp, upd_same, List.Perm.refl _, rfl⟩ (fun _ _ _ _ => trivial) ?_ ?_
    · rintro i x H2' H2 hi ⟨o2, p2, ps, qs, hqs, hps, pm, hlen⟩ ⟨rfl, rfl⟩
      refine ⟨rfl, tyes_if ?_⟩
      have hpl := pm.length_eq
      rw [List.length_append, hlen] at hpl
      have hpool : pool.length = 13 := rfl
      have hcd := hp.ne
      have hpd : p ≠ d := fun e => by
        obtain ⟨_, _, _, e1, _⟩ := p2.ex
        rw [e, e1] at hqs; cases hqs
      have hDd : D ≠ d := fun e => by
        obtain ⟨_, _, _, e1, _⟩ := p2.ex
        rw [e, e1] at hps; cases hps
      have hpc : p ≠ c := fun e => by
        obtain ⟨_, _, _, _, e2, _⟩ := hp.ex
        rw [e, e2] at hpn; cases hpn
      have hDc : D ≠ c := fun e => by
        obtain ⟨_, _, _, _, e2, _⟩ := hp.ex
        rw [e, e2] at hDH; cases hDH
      refine ⟨.ref p, rfl, .inl ⟨rfl, _, SqL.of hqs⟩, ?_⟩
      refine r_call2 (r_var rfl (gv_use (gv_len (n := qs.length) (gv_var (R := fun H v => ∃ p xs, v = .ref p ∧ (SqL K H p xs ∨ SqT K H p xs) ∧ xs.length = qs.length) rfl ⟨p, _, rfl, .inl (SqL.of hqs), by simp⟩)) fun y H3 s3 ey => ⟨d, c, k + i, (qs.length : Nat), by rw [ey], by omega, by omega, by omega, p2.same s3, fun j H4 hj o4 p4 => ?_⟩))
      have hjl : j < qs.length := by omega
      have hq4 : H4 p = some (.lst (qs.map V.str)) := o4 _ _ hpd (s3 _ _ hqs)
      have hD4 : H4 D = some (.lst (ps.map V.str)) := o4 _ _ hDd (s3 _ _ hps)
      refine ⟨p, qs.map V.str, j, j, .str (qs[j]'hjl), rfl, rfl, hq4, by omega, by omega, ?_, by rw [List.getElem?_map, List.getElem?_eq_getElem hjl]; rfl, ps.map V.str, by rw [upd_ne (Ne.symm hpD)]; exact hD4, by rw [List.length_map, hlen]; omega, ?_⟩
      · rw [List.length_map]; exact seqIx_nat hjl
      · have hpH : H p = none := hpn
        refine ⟨oth_mut (oth_mut (o2.trans ((oth_same s3).trans o4)) hpH) hDH, ?_, ps ++ [qs[j]'hjl], qs.eraseIdx j, ?_, by rw [upd_same, List.map_append]; rfl, ?_, by simp [hlen]⟩
        · obtain ⟨a, l, ns, e1, e2, r⟩ := p4.ex
          exact ⟨a, l, ns, by rw [upd_ne (Ne.symm hDd), upd_ne (Ne.symm hpd)]; exact e1, by rw [upd_ne (Ne.symm hDc), upd_ne (Ne.symm hpc)]; exact e2, r⟩
        · rw [upd_ne hpD, upd_same]
          congr 2
          exact erase_map ..
        · refine List.Perm.trans ?_ pm
          rw [List.append_assoc]
          exact List.Perm.append_left _ (erase_perm (List.getElem?_eq_getElem hjl)).symm
    · rintro H2 ⟨o2, p2, ps, qs, hqs, hps, pm, hlen⟩
      have hpsl : P2 (StV H2) (ps.map V.str) ps := by
        have := P2.map (R := StV H2) (f := V.str) (g := fun s => s) ps fun s _ => rfl
        rwa [List.map_id'] at this
      have hmem : ∀ s ∈ ps, s ∈ pool := fun s hs => pm.mem_iff.mp (List.mem_append_left _ hs)
      have hnd : ps.Nodup := (List.nodup_append.mp (pm.nodup_iff.mpr pool_nd)).1
      exact gv_sorted (K := K) (te := tC (.ref D)) (σ := []) (d := PyData.str) (fun as => as = ps) tm_st (gv_c ⟨ps, rfl, (show LstV StV H2 (.ref D) ps from ⟨D, _, rfl, hps, hpsl⟩).sq.q⟩) (fun as v a H1 _ _ r => by rw [show v = V.str a from r]; exact .str a) (fun as _ => PySem.W.AllAlike.of fun _ _ => by simp [PySem.W.alike]) (fun as _ => PySem.W.Sortable.others fun _ => ⟨by simp, by simp⟩) (fun as _ a _ => by simp [PyData.depth]) Q fun r H3 s3 ⟨as, bs, e, pm2, sr, p3, xs3, er, fr3, hp3, r3⟩ => by
        rw [e] at pm2
        have hbl : bs.length = n := by rw [pm2.length_eq, hlen]
        have hN := nm_of sr (pm2.nodup_iff.mpr hnd) (fun s hs => hmem s (pm2.mem_iff.mp hs)) (by omega)
        rw [hbl] at hN
        have hcd := hp.ne
        refine q r H3 _ (o2.trans (oth_same s3)) (p2.same s3) hN ⟨p3, xs3, er, ?_, hp3, ?_⟩
        · cases h : H p3 with
          | none => rfl
          | some o =>
            by_cases e3 : p3 = d
            · obtain ⟨_, _, _, e1, _⟩ := p2.ex
              rw [e3, e1] at fr3; cases fr3
            · rw [o2 _ _ e3 h] at fr3; cases fr3
        · have := map_getD bs
          rw [hbl] at this
          rw [this] at r3
          exact (P2.unmap r3).imp fun _ _ z => z
/-! ### _law_tree -/
theorem P2.eraseIdx {γ δ : Type} {R : γ → δ → Prop} {xs : List γ} {ys : List δ} (h : P2 R xs ys) : ∀ j, P2 R (xs.eraseIdx j) (ys.eraseIdx j) := by
  induction h with
  | nil => intro j; simp; exact .nil
  | cons r h ih =>
    intro j
    cases j with
    | zero => simpa using h
    | succ j => simp only [List.eraseIdx_cons_succ]; exact .cons r (ih j)
theorem gv_min2 {ta tb : TE} {σ : L2.St} {H : Hp} {m : Nat} (ha : Gv ta σ H fun _ v => v = .int 2) (hb : ∀ H1, Same H H1 → Gv tb σ H1 fun _ v => v = .int (m : Nat)) (hm : 2 ≤ m) : Gv (tCB (fun xs H Q => ∃ i j, xs = [.int i, .int j] ∧ Q (.int (if j < i then j else i)) H) (tCons ta (tCons tb tNil))) σ H fun _ v => v = .int 2 := fun Q q =>
  r_b2 (gv_use ha fun x H1 s1 e1 => gv_use (hb H1 s1) fun y H2 s2 e2 => ⟨2, m, by rw [e1, e2], by rw [if_neg (by omega)]; exact q _ _ (s1.trans s2) rfl⟩)
theorem r_rng1 {ta : TE} {m : Nat} {g : TG} {tb : TS} {D : Ends} {σ : L2.St} {H : Hp} (h : Gv ta σ H fun _ v => v = .int (m : Nat)) (hm : m ≤ 100000) (k : ∀ H1, Same H H1 → ForR (Itr 0 m) g tb D σ H1) : tFor (iRng1 (tCons ta tNil)) g tb D σ H :=
  h _ fun x H1 s1 e => ⟨m, by rw [e], by omega, by omega, by rw [Int.toNat_natCast]; exact k H1 s1⟩

def spTree (nm : Nat → Str) (n : Nat) : Sp := fun vs H Q _ => ∃ (d c : Addr) (k : Nat) (u : V), vs = [.ref d, u, .int 0] ∧ LstV (NmV nm) H u (List.range n) ∧ 1 ≤ n ∧ k ≤ 1000 ∧ Pen d c k H ∧ ∀ r H' t, Oth d H H' → Pen d c (k + 30) H' → TrV nm H' r t → Wf n t → (∀ x, x ∈ t.nm ↔ x < n) → Q r H'
/-- trees that are apart, of all names below n -/
structure Trs (n : Nat) (ts : List Tr) : Prop where
  ok : ∀ t ∈ ts, t.ok
  pm : ((ts.map Tr.nm).flatten).Perm (List.range n)
theorem Trs.wf {ts : List Tr} (h : Trs n ts) {t : Tr} (ht : t ∈ ts) : Wf n t := ⟨h.ok t ht, fun x hx => List.mem_range.mp (h.pm.mem_iff.mp (List.mem_flatten.mpr ⟨_, List.mem_map.mpr ⟨t, ht, rfl⟩, hx⟩))⟩
theorem Trs.perm {ts us : List Tr} (h : Trs n ts) (p : us.Perm ts) : Trs n us := ⟨fun t ht => h.ok t (p.mem_iff.mp ht), ((p.map Tr.nm).flatten).trans h.pm⟩
theorem Trs.fork {ts : List Tr} {a b : Tr} (h : Trs n (a :: b :: ts)) : Disj a b ∧ Trs n (ts ++ [Jt.mk a b]) := by
  have hnd := h.pm.nodup_iff.mpr List.nodup_range
  simp only [List.map_cons, List.flatten_cons] at hnd
  have hd : Disj a b := fun x hx hy => by
    have := (List.nodup_append.mp hnd).2.2 x hx x (List.mem_append_left _ hy)
    exact this rfl
  refine ⟨hd, fun t ht => ?_, ?_⟩
  · rcases List.mem_append.mp ht with k | k
    · exact h.ok t (by simp [k])
    · rw [List.mem_singleton.mp k]
      exact ok_mk (h.ok a (by simp)) (h.ok b (by simp)) hd
  · refine List.Perm.trans ?_ h.pm
    have hmk : (Jt.mk a b).nm.Perm (a.nm ++ b.nm) := by
      rcases mk_or a b with e | e
      · rw [e]; exact List.Perm.refl _
      · rw [e]; exact List.perm_append_comm
    simp only [List.map_append, List.map_cons, List.map_nil, List.flatten_append, List.flatten_cons, List.flatten_nil, List.append_nil]
    refine (List.Perm.append_left _ hmk).trans ?_
    rw [← List.append_assoc a.nm]
    exact List.perm_append_comm
theorem sc__law_tree : FnScope ["_law_pen_here", "_law_names_here", "_law_wide", "_law_left", "_law_many", "_law_parts", "_law_k"] ["_law_pen_here", "_law_names_here", "_law_wide"] (defScope s_lawtree) := ⟨rfl, rfl, rfl, by decide +kernel, rfl, by decide +kernel, by decide +kernel⟩
theorem ok__law_tree (F : FnD K "_law_tree" s_lawtree f fd) (B : Bi mg) (N : Nm nm n) (c__law_draw : Cal P w K mg base 1 "_law_draw" ["_law_pen_here", "_law_many"] spDraw) (c__law_fork : Cal P w K mg base 2 "_law_fork" ["_law_parts"] (spFork nm n)) : FnOk P w K mg base CX0 3 f fd ["_law_pen_here", "_law_names_here", "_law_wide"] (spTree nm n) := by
  refine F.ok sc__law_tree (fun vs H Q E h => ?_) (fun cdv A outer s H vs Q E hr h => ?_)
  · obtain ⟨_, _, _, _, rfl, _⟩ := h; rfl
  · obtain ⟨d, c, k, u, rfl, hu0, hn1, hk, hp, q⟩ := h
    have hu := hr.units
    refine ⟨_, PSs.nox (pss_cons (ps_set (i := 3) sc__law_tree.nd rfl (by first | exact Or.inl rfl | exact Or.inr rfl) (pe_callTy (listQ K) (by rfl) B.list boot_list (pa_cons (pv 1) pa_nil)))
      (pss_cons (ps_while PassesOwn.never (pt_cmpR op_gt (pe_callB (lenQ K) (by rfl) B.len boot_len (pa_cons (pv 3) pa_nil)) (pe_int) (by rfl)) (pss_cons (ps_set (i := 4) sc__law_tree.nd rfl (by first | exact Or.inl rfl | exact Or.inr rfl) (pe_op op_add (pe_int) (pe_op op_mul (pv 2) (pe_ix (ixL K) (pe_lst (pa_cons (pe_int) (pa_cons (pe_int) (pa_cons (pe_int) (pa_cons (pe_cal c__law_draw (hr.mono (by first | decide | omega)) (pa_cons (pv 0) (pa_cons (pe_int) pa_nil))) pa_nil))))) (pe_cal c__law_draw (hr.mono (by first | decide | omega)) (pa_cons (pv 0) (pa_cons (pe_int) pa_nil))) (fun _ _ => rfl)))))
      (pss_cons (ps_set (i := 5) sc__law_tree.nd rfl (by first | exact Or.inl rfl | exact Or.inr rfl) (pe_lst pa_nil))
      (pss_cons (ps_for PassesOwn.never rfl (pi_range1 (by rfl) B.range (pa_cons (pe_callB (call_min2 rfl) (by rfl) B.min boot_min (pa_cons (pv 4) (pa_cons (pe_callB (lenQ K) (by rfl) B.len boot_len (pa_cons (pv 3) pa_nil)) pa_nil))) pa_nil)) (pg_name (i := 6) sc__law_tree.nd rfl (by first | exact Or.inl rfl | exact Or.inr rfl)) (pss_one (ps_expr (pe_bm PySem.F.plainAttrs_list PySem.F.slot_list_append PySem.F.type_list_append mt_append (pv 5) (pa_cons (pe_bm PySem.F.plainAttrs_list PySem.F.slot_list_pop PySem.F.type_list_pop mt_popAt (pv 3) (pa_cons (pe_ix (ixL K) (pe_lst (pa_cons (pe_cal c__law_draw (hr.mono (by first | decide | omega)) (pa_cons (pv 0) (pa_cons (pe_callB (lenQ K) (by rfl) B.len boot_len (pa_cons (pv 3) pa_nil)) pa_nil))) (pa_cons (pe_un un_neg (pe_int)) pa_nil))) (pe_cal c__law_draw (hr.mono (by first | decide | omega)) (pa_cons (pv 0) (pa_cons (pe_int) pa_nil))) (fun _ _ => rfl)) pa_nil)) pa_nil)))))
      (pss_one (ps_expr (pe_bm PySem.F.plainAttrs_list PySem.F.slot_list_append PySem.F.type_list_append mt_append (pv 3) (pa_cons (pe_cal c__law_fork (hr.mono (by first | decide | omega)) (pa_cons (pv 5) pa_nil)) pa_nil))))))))
      (pss_one (ps_ret (pe_ix (ixL K) (pv 3) (pe_int) (fun _ _ => rfl)))))), ?_⟩
    have hsl : (100000 : Nat) ≤ sizeLine := by decide
    have hfw := N.few
    have hcd := hp.ne
    refine r_seq (r_asg (gv_use (gv_listOf (K := K) (fun as => as = List.range n) (tm_nm (nm := nm)) (gv_var (R := fun H r => ∃ as, as = List.range n ∧ SqV K (NmV nm) H r as) rfl ⟨_, rfl, hu0.sq.q⟩)) fun lv H1 s1 ⟨_, e, pL, xs, el, hL, hpL, rl⟩ => ?_))
    subst e; subst el
    have hLd : pL ≠ d := fun e => by obtain ⟨_, _, _, e1, _⟩ := hp.ex; rw [e, e1] at hL; cases hL
    have hLc : pL ≠ c := fun e => by obtain ⟨_, _, _, _, e2, _⟩ := hp.ex; rw [e, e2] at hL; cases hL
    have penU : ∀ {k' : Nat} {H' : Hp} {D : Addr} {o : HO}, D ≠ d → D ≠ c → Pen d c k' H' → Pen d c k' (upd H' D o) := fun h1 h2 p => by
      obtain ⟨a, l, ns, e1, e2, r⟩ := p.ex
      exact ⟨a, l, ns, by rw [upd_ne (Ne.symm h1)]; exact e1, by rw [upd_ne (Ne.symm h2)]; exact e2, r⟩
    refine r_seq ⟨fun m σ H' => ∃ ts ls j a b e, m = ts.length ∧ σ = [some (.ref d), some u, some (.int 0), some (.ref pL), a, b, e] ∧ Oth d H H' ∧ Pen d c (k + j) H' ∧ j + 6 * ts.length ≤ 6 * n ∧ 1 ≤ ts.length ∧ H' pL = some (.lst ls) ∧ P2 (TrV nm H') ls ts ∧ Trs n ts, ⟨_, (List.range n).map Tr.lf, xs, 0, none, none, none, rfl, rfl, oth_same s1, hp.same s1, by simp, by simp; omega, hpL, ?_, ⟨fun t ht => ?_, ?_⟩⟩, ?_⟩
    · have : ∀ {xs : List V} {l : List Nat}, P2 (NmV nm H1) xs l → P2 (TrV nm H1) xs (l.map Tr.lf) := by
        intro xs l h
        induction h with
        | nil => exact .nil
        | cons r _ ih => exact .cons (by rw [show _ = _ from r]; exact .lf _) ih
      exact this rl
    · obtain ⟨i, _, rfl⟩ := List.mem_map.mp ht; exact trivial
    · have : ((((List.range n).map Tr.lf).map Tr.nm).flatten) = List.range n := by
        generalize List.range n = l
        induction l with
        | nil => rfl
        | cons a l ih => simp only [List.map_cons, List.flatten_cons, ih]; rfl
      rw [this]
    · rintro m σ H2 ⟨ts, ls, j, a, b, e, rfl, rfl, o2, p2, hj, ht1, hls, rls, hts⟩
      have hlen := rls.len
      have htn : ts.length ≤ n := by omega
      refine gt_use (b := decide (1 < ts.length)) (gt_test fun Q' q' => r_op (gv_use (gv_len (n := ts.length) (gv_var (R := fun H v => ∃ p xs, v = .ref p ∧ (SqL K H p xs ∨ SqT K H p xs) ∧ xs.length = ts.length) rfl ⟨pL, ls, rfl, .inl (SqL.of hls), hlen⟩)) fun y H3 s3 ey => r_c ⟨_, _, ey, rfl, q' _ _ s3 (congrArg V.bl (decide_eq_decide.mpr (by omega)))⟩)) fun H3 s3 => ?_
      have hls3 := s3 _ _ hls
      have p3 := p2.same s3
      have o3 := o2.trans (oth_same (d := d) s3)
      have rls3 := rls.imp fun _ _ z => tm_tr.same s3 z
      by_cases h1 : 1 < ts.length
      · rw [decide_eq_true h1]
        refine iteT ⟨fun σ' H' => ∃ ts' ls j a b e, ts'.length < ts.length ∧ σ' = [some (.ref d), some u, some (.int 0), some (.ref pL), a, b, e] ∧ Oth d H H' ∧ Pen d c (k + j) H' ∧ j + 6 * ts'.length ≤ 6 * n ∧ 1 ≤ ts'.length ∧ H' pL = some (.lst ls) ∧ P2 (TrV nm H') ls ts' ∧ Trs n ts', fun σ' H' ⟨ts', ls, j, a, b, e, z1, z2⟩ => ⟨_, z1, ts', ls, j, a, b, e, rfl, z2⟩, ?_⟩
        -- many
        refine r_seq (r_asg (r_op (r_c (r_op (r_var rfl (r_op (r_lst (r_cons (r_c (r_cons (r_c (r_cons (r_c (r_cons (r_call2 (r_var rfl (r_c ⟨d, c, k + j, 3, rfl, by decide, by decide, by omega, p3, fun j1 H4 hj1 o4 p4 => r_nil ⟨by show 4 ≤ sizeLine; decide, fun pl hpl => ?_⟩⟩)))))))))))))))))
        have s5 : Same H4 (upd H4 pl (.lst [.int 0, .int 0, .int 1, .int j1])) := same_new hpl _
        refine r_call2 (r_var rfl (r_c ⟨d, c, k + j + 1, 4, rfl, by decide, by decide, by omega, p4.same s5, fun j2 H5 hj2 o5 p5 => ?_⟩))
        have hpl5 : H5 pl = some (.lst [.int 0, .int 0, .int 1, .int j1]) := o5 _ _ (fun e => by obtain ⟨_, _, _, e1, _⟩ := p4.ex; rw [e, e1] at hpl; cases hpl) upd_same
        obtain ⟨z, hz⟩ : ∃ z : Int, ([.int 0, .int 0, .int 1, .int j1] : List V)[j2]? = some (.int z) := by
          have : j2 = 0 ∨ j2 = 1 ∨ j2 = 2 ∨ j2 = 3 := by omega
          rcases this with rfl | rfl | rfl | rfl
          · exact ⟨_, rfl⟩
          · exact ⟨_, rfl⟩
          · exact ⟨_, rfl⟩
          · exact ⟨_, rfl⟩
        refine ⟨pl, _, j2, .int z, rfl, rfl, SqL.of hpl5, atI_nat hz, ?_⟩
        refine ⟨0, z, rfl, rfl, .inl ⟨by decide, by decide⟩, _, _, rfl, rfl, ?_⟩
        have e2 : (2 : Int) + 0 * z = 2 := by omega
        dsimp only
        rw [e2]
        have o35 : Oth d H3 H5 := (o4.trans (oth_same s5)).trans o5
        have t35 : Tups H3 H5 := p3.tups o35
        have ho5 := o3.trans o35
        have hls5 := o35 _ _ hLd hls3
        have rls5 := rls3.imp fun _ _ z => tm_tr _ _ _ _ t35 z
        -- parts
        refine r_seq (r_asg (r_nilL fun D hD => ?_))
        have hDH : H D = none := by
          cases h : H D with
          | none => rfl
          | some o =>
            by_cases e3 : D = d
            · obtain ⟨_, _, _, e1, _⟩ := p5.ex
              rw [e3, e1] at hD; cases hD
            · rw [ho5 _ _ e3 h] at hD; cases hD
        have hDd : D ≠ d := fun e => by obtain ⟨_, _, _, e1, _⟩ := p5.ex; rw [e, e1] at hD; cases hD
        have hDc : D ≠ c := fun e => by obtain ⟨_, _, _, _, e2, _⟩ := p5.ex; rw [e, e2] at hD; cases hD
        have hDL : D ≠ pL := fun e => by rw [e, hls5] at hD; cases hD
        have s6 : Same H5 (upd H5 D (.lst [])) := same_new hD _
        have o6 : Oth d H (upd H5 D (.lst [])) := ho5.trans (oth_same s6)
        have p6 := p5.same s6
        have hD6 : upd H5 D (.lst []) D = some (.lst []) := upd_same
        have hls6 := s6 _ _ hls5
        have rls6 := rls5.imp fun _ _ z => tm_tr.same s6 z
        generalize upd H5 D (.lst []) = H6 at s6 o6 p6 hD6 hls6 rls6 ⊢
        refine r_seq (r_rng1 (m := 2) (gv_min2 (gv_var rfl rfl) (fun H7 s7 => gv_len (n := ts.length) (gv_var (R := fun H v => ∃ p xs, v = .ref p ∧ (SqL K H p xs ∨ SqT K H p xs) ∧ xs.length = ts.length) rfl ⟨pL, ls, rfl, .inl (SqL.of (s7 _ _ hls6)), hlen⟩)) (by omega)) (by omega) fun H7 s7 => for_it (walk_range (lo := 0) (n := 2)) (fun i σ H' => (∃ e, σ = [some (.ref d), some u, some (.int 0), some (.ref pL), some (.int 2), some (.ref D), e]) ∧ Oth d H H' ∧ Pen d c (k + j + 2 + 2 * i) H' ∧ ∃ ys us ls' ts', H' D = some (.lst ys) ∧ P2 (TrV nm H') ys us ∧ us.length = i ∧ H' pL = some (.lst ls') ∧ P2 (TrV nm H') ls' ts' ∧ (us ++ ts').Perm ts) ⟨⟨e, rfl⟩, o6.trans (oth_same s7), p6.same s7, [], [], ls, ts, s7 _ _ hD6, .nil, rfl, s7 _ _ hls6, rls6.imp fun _ _ z => tm_tr.same s7 z, List.Perm.refl _⟩ (fun _ _ _ _ _ => trivial) ?_ ?_)
        · rintro i x σ H8' H8 hi ⟨⟨e, rfl⟩, o8, p8, ys, us, ls', ts', hD8, rys, hul, hL8, rls8, pm⟩ ⟨rfl, rfl⟩
          have hpl := pm.length_eq
          rw [List.length_append, hul] at hpl
          have hl8 := rls8.len
          have hlp : 0 < ls'.length := by omega
          refine ⟨.ref D, rfl, .inl ⟨rfl, _, SqL.of hD8⟩, .ref pL, rfl, .inl ⟨rfl, _, SqL.of hL8⟩, ?_⟩
          refine r_op (r_lst (r_cons (r_call2 (r_var rfl (gv_use (gv_len (n := ls'.length) (gv_var (R := fun H v => ∃ p xs, v = .ref p ∧ (SqL K H p xs ∨ SqT K H p xs) ∧ xs.length = ls'.length) rfl ⟨pL, ls', rfl, .inl (SqL.of hL8), rfl⟩)) fun y H9 s9 ey => ⟨d, c, k + j + 2 + 2 * i, (ls'.length : Nat), by rw [ey], by omega, by omega, by omega, p8.same s9, fun j3 H10 hj3 o10 p10 => r_cons (r_c ⟨1, rfl, r_nil ⟨by show 2 ≤ sizeLine; decide, fun pq hpq => ?_⟩⟩)⟩)))))
          have s11 : Same H10 (upd H10 pq (.lst [.int j3, .int (-1)])) := same_new hpq _
          refine r_call2 (r_var rfl (r_c ⟨d, c, k + j + 2 + 2 * i + 1, 2, rfl, by decide, by decide, by omega, p10.same s11, fun j4 H12 hj4 o12 p12 => ?_⟩))
          have hpq12 : H12 pq = some (.lst [.int j3, .int (-1)]) := o12 _ _ (fun e => by obtain ⟨_, _, _, e1, _⟩ := p10.ex; rw [e, e1] at hpq; cases hpq) upd_same
          have o8_12 : Oth d H8 H12 := (((oth_same s9).trans o10).trans (oth_same s11)).trans o12
          have t8_12 : Tups H8 H12 := p8.tups o8_12
          have hL12 := o8_12 _ _ hLd hL8
          have hD12 := o8_12 _ _ hDd hD8
          obtain ⟨ix, jj, hix, hjj, hlt, hb1, hb2⟩ : ∃ (ix : Int) (jj : Nat), ([.int j3, .int (-1)] : List V)[j4]? = some (.int ix) ∧ seqIndex? ix ls'.length = some jj ∧ jj < ls'.length ∧ -(2 ^ 63) ≤ ix ∧ ix < 2 ^ 63 := by
            have : j4 = 0 ∨ j4 = 1 := by omega
            rcases this with rfl | rfl
            · exact ⟨j3, j3, rfl, seqIx_nat (by omega), by omega, by omega, by omega⟩
            · exact ⟨-1, ls'.length - 1, rfl, seqIx_last hlp, by omega, by omega, by omega⟩
          obtain ⟨t0, ht0, rt0⟩ := rls8.get (List.getElem?_eq_getElem hlt)
          refine ⟨pq, _, j4, .int ix, rfl, rfl, SqL.of hpq12, atI_nat hix, pL, ls', ix, jj, ls'[jj]'hlt, rfl, rfl, hL12, hb1, hb2, hjj, List.getElem?_eq_getElem hlt, D, ys, _, rfl, rfl, by rw [upd_ne hDL]; exact hD12, by have := rys.len; omega, ?_⟩
          have tA : Tups H12 (upd (upd H12 pL (.lst (ls'.eraseIdx jj))) D (.lst (ys ++ [ls'[jj]'hlt]))) := (tups_lst hL12).trans (tups_lst (by rw [upd_ne hDL]; exact hD12))
          have t8A := t8_12.trans tA
          refine ⟨⟨_, rfl⟩, oth_mut (oth_mut (o8.trans o8_12) hL) hDH, penU hDd hDc (penU hLd hLc (by have := p12; rw [show k + j + 2 + 2 * (i + 1) = k + j + 2 + 2 * i + 1 + 1 by omega]; exact this)), ys ++ [ls'[jj]'hlt], us ++ [t0], ls'.eraseIdx jj, ts'.eraseIdx jj, upd_same, (rys.imp fun _ _ z => tm_tr _ _ _ _ t8A z).app (.cons (tm_tr _ _ _ _ t8A rt0) .nil), by simp [hul], by rw [upd_ne (Ne.symm hDL), upd_same], (rls8.eraseIdx jj).imp fun _ _ z => tm_tr _ _ _ _ t8A z, ?_⟩
          refine List.Perm.trans ?_ pm
          rw [List.append_assoc]
          exact List.Perm.append_left _ (erase_perm ht0).symm
        · rintro σ H8 ⟨⟨e, rfl⟩, o8, p8, ys, us, ls', ts', hD8, rys, hul, hL8, rls8, pm⟩
          match us, ys, hul, rys, pm with
          | [a1, b1], [y1, y2], _, .cons r1 (.cons r2 .nil), pm =>
            have htr := hts.perm pm
            obtain ⟨hd, htn2⟩ := Trs.fork (ts := ts') htr
            have hpl := pm.length_eq
            simp only [List.length_append, List.length_cons, List.length_nil] at hpl
            have hl8 := rls8.len
            dsimp only
            refine r_appendG (p := pL) (xs := ls') (Ry := fun H r => TrV nm H r (mk a1 b1)) (gv_var rfl rfl) hL8 (by omega) (fun s9 => gv_call1 (gv_var (R := fun H r => LstV (TrV nm) H r [a1, b1]) rfl ⟨D, [y1, y2], rfl, s9 _ _ hD8, .cons (tm_tr.same s9 r1) (.cons (tm_tr.same s9 r2) .nil)⟩) fun x H9 s9 rx => ⟨[a1, b1], ⟨x, rfl, rx, fun t ht => htr.wf (List.mem_append_left _ ht), .inr ⟨a1, b1, rfl, hd.fst_ne⟩⟩, fun r H10 s10 ⟨t1, e1, z⟩ => by cases e1; exact z⟩) fun y H9 s9 ry => ?_
            have hL9 := s9 _ _ hL8
            refine ⟨ts' ++ [mk a1 b1], ls' ++ [y], j + 6, _, _, _, by simp; omega, rfl, oth_mut (o8.trans (oth_same s9)) hL, penU hLd hLc ((p8.same s9).le (by omega)), by simp; omega, by simp, upd_same, (rls8.imp fun _ _ z => tm_tr _ _ _ _ ((Same.tups s9).trans (tups_lst hL9)) z).app (.cons (tm_tr _ _ _ _ (tups_lst hL9) ry) .nil), htn2⟩
      · rw [decide_eq_false h1]
        refine iteF ?_
        match ts, ls, ht1, h1, rls3, hts, hls3, hj with
        | [t], [x], _, _, .cons rx .nil, hts, hls3, hj =>
          refine r_ret (r_op (r_var rfl (r_c ⟨pL, _, _, x, rfl, rfl, SqL.of hls3, atI_nat (j := 0) rfl, q _ _ t o3 (p3.le (by omega)) rx (hts.wf List.mem_cons_self) fun x => ?_⟩)))
          have := hts.pm.mem_iff (a := x)
          simpa using this
        | _ :: _ :: _, _, _, h1, _, _, _, _ => exact (h1 (by simp)).elim
end
end Jw
end

section
set_option Elab.async false
set_option linter.all false
set_option maxRecDepth 100000
set_option maxHeartbeats 4000000
/-! The law's own defs: pair. -/
namespace Jw
open PySem PySem.Spec PyProof.Rows L2 Jt JH
/-- a promise for all names -/
def AllNm (sp : (Nat → Str) → Nat → Sp) : Sp := fun vs H Q E => ∃ i : { p : (Nat → Str) × Nat // Nm p.1 p.2 }, sp i.1.1 i.1.2 vs H Q E
theorem all_nm {P : Program} {w : World} {K : PySem.W.Frag} {mg : Str → Option Value} {base : Heap} {k : Nat} {f : Addr} {fd : FuncData} {ps : List Str} {sp : (Nat → Str) → Nat → Sp} (h : ∀ nm n, Nm nm n → FnOk P w K mg base CX0 k f fd ps (sp nm n)) : FnOk P w K mg base CX0 k f fd ps (AllNm sp) :=
  FnOk.all (sp := fun i : { p : (Nat → Str) × Nat // Nm p.1 p.2 } => sp i.1.1 i.1.2) fun i => h _ _ i.2
theorem fk_of_two {T : Tr} {n : Nat} (h2 : 2 ≤ n) (hT : ∀ x, x ∈ T.nm ↔ x < n) : ∃ a b, T = .fk a b := by
  cases T with
  | lf i =>
    have h0 := (hT 0).mpr (by omega)
    have h1 := (hT 1).mpr (by omega)
    simp [Tr.nm] at h0 h1
    omega
  | fk a b => exact ⟨a, b, rfl⟩
section
variable {P : Program} {w : World} {K : PySem.W.Frag} {mg : Str → Option Value} {base : Heap} {f : Addr} {fd : FuncData}
theorem gt_testO {te : TE} {σ : L2.St} {H : Hp} {Q : Bool → Hp → Prop} (h : te σ H fun x H1 => ∃ k, x = .bl k ∧ Q k H1) : tTest te σ H Q := h
theorem r_rngO {ta : TE} {g : TG} {tb : TS} {D : Ends} {σ : L2.St} {H : Hp} (h : ta σ H fun x H1 => ∃ j : Int, [x] = [.int j] ∧ -(2 ^ 62) ≤ j ∧ j < 2 ^ 62 ∧ ForR (Itr 0 j.toNat) g tb D σ H1) : tFor (iRng1 (tCons ta tNil)) g tb D σ H := h
def spPair : Sp := fun vs H Q _ => ∃ (d c : Addr) (k n : Nat), vs = [.ref d, .int n] ∧ 2 ≤ n ∧ n ≤ 5 ∧ k ≤ 100 ∧ Pen d c k H ∧ ∀ r H' nm T G, Oth d H H' → Pen d c (k + 200) H' → Nm nm n → PrV (TrV nm) (TrV nm) H' r (T, G) → Wf n T → Wf n G → (∀ x, x ∈ T.nm ↔ x < n) → (∀ x, x ∈ G.nm ↔ x < n) → Q r H'
theorem sc__law_pair : FnScope ["_law_pen_here", "_law_many", "_law_names_here", "_law_one", "_law_other", "_law_k", "_law_some", "_law_lot", "_law_places"] ["_law_pen_here", "_law_many"] (defScope s_lawpair) := ⟨rfl, rfl, rfl, by decide +kernel, rfl, by decide +kernel, by decide +kernel⟩
theorem ok__law_pair (F : FnD K "_law_pair" s_lawpair f fd) (B : Bi mg) (c__law_draw : Cal P w K mg base 1 "_law_draw" ["_law_pen_here", "_law_many"] spDraw) (c__law_names : Cal P w K mg base 2 "_law_names" ["_law_pen_here", "_law_many"] spNames) (c__law_tree : Cal P w K mg base 3 "_law_tree" ["_law_pen_here", "_law_names_here", "_law_wide"] (AllNm spTree))
    (c__law_moves : Cal P w K mg base 12 "_law_moves" ["_law_tree_here"] (AllNm spLawMoves)) (c__law_moved : Cal P w K mg base 12 "_law_moved" ["_law_tree_here", "_law_lot", "_law_place"] (AllNm spLawMoved)) : FnOk P w K mg base CX0 13 f fd ["_law_pen_here", "_law_many"] spPair := by
  refine F.ok sc__law_pair (fun vs H Q E h => ?_) (fun cdv A outer s H vs Q E hr h => ?_)
  · obtain ⟨_, _, _, _, rfl, _⟩ := h; rfl
  · obtain ⟨d, c, k, n, rfl, hn2, hn5, hk, hp, q⟩ := h
    refine ⟨_, PSs.nox (pss_cons (ps_set (i := 2) sc__law_pair.nd rfl (by first | exact Or.inl rfl | exact Or.inr rfl) (pe_cal c__law_names (hr.mono (by first | decide | omega)) (pa_cons (pv 0) (pa_cons (pv 1) pa_nil))))
      (pss_cons (ps_set (i := 3) sc__law_pair.nd rfl (by first | exact Or.inl rfl | exact Or.inr rfl) (pe_cal c__law_tree (hr.mono (by first | decide | omega)) (pa_cons (pv 0) (pa_cons (pv 2) (pa_cons (pe_int) pa_nil)))))
      (pss_cons (ps_set (i := 4) sc__law_pair.nd rfl (by first | exact Or.inl rfl | exact Or.inr rfl) (pe_cal c__law_tree (hr.mono (by first | decide | omega)) (pa_cons (pv 0) (pa_cons (pv 2) (pa_cons (pe_int) pa_nil)))))
      (pss_cons (ps_if (pt_cmpR op_eq (pe_cal c__law_draw (hr.mono (by first | decide | omega)) (pa_cons (pv 0) (pa_cons (pe_int) pa_nil))) (pe_int) (by rfl)) (pss_cons (ps_set (i := 4) sc__law_pair.nd rfl (by first | exact Or.inl rfl | exact Or.inr rfl) (pv 3))
      (pss_one (ps_for PassesOwn.never rfl (pi_range1 (by rfl) B.range (pa_cons (pe_op op_mul (pe_cal c__law_draw (hr.mono (by first | decide | omega)) (pa_cons (pv 0) (pa_cons (pe_int) pa_nil))) (pe_callTy call_int1 (by rfl) B.int boot_int (pa_cons (pe_cmpR op_gt (pv 1) (pe_int) (by rfl)) pa_nil))) pa_nil)) (pg_name (i := 5) sc__law_pair.nd rfl (by first | exact Or.inl rfl | exact Or.inr rfl)) (pss_cons (ps_set (i := 6) sc__law_pair.nd rfl (by first | exact Or.inl rfl | exact Or.inr rfl) (pe_cal c__law_moves (hr.mono (by first | decide | omega)) (pa_cons (pv 4) pa_nil)))
      (pss_cons (ps_asg (pe_ix (ixL K) (pv 6) (pe_cal c__law_draw (hr.mono (by first | decide | omega)) (pa_cons (pv 0) (pa_cons (pe_callB (lenQ K) (by rfl) B.len boot_len (pa_cons (pv 6) pa_nil)) pa_nil))) (fun _ _ => rfl)) (pg_tup rfl (pgs_cons (pg_name (i := 7) sc__law_pair.nd rfl (by first | exact Or.inl rfl | exact Or.inr rfl)) (pgs_cons (pg_name (i := 8) sc__law_pair.nd rfl (by first | exact Or.inl rfl | exact Or.inr rfl)) pgs_nil))))
      (pss_one (ps_set (i := 4) sc__law_pair.nd rfl (by first | exact Or.inl rfl | exact Or.inr rfl) (pe_cal c__law_moved (hr.mono (by first | decide | omega)) (pa_cons (pv 4) (pa_cons (pv 7) (pa_cons (pe_ix (ixL K) (pv 8) (pe_cal c__law_draw (hr.mono (by first | decide | omega)) (pa_cons (pv 0) (pa_cons (pe_callB (lenQ K) (by rfl) B.len boot_len (pa_cons (pv 8) pa_nil)) pa_nil))) (fun _ _ => rfl)) pa_nil))))))))))) pss_nil)
      (pss_one (ps_ret (pe_tup (pa_cons (pv 3) (pa_cons (pv 4) pa_nil))))))))), ?_⟩
    refine r_seq (r_asg (r_call2 (r_var rfl (r_var rfl ⟨d, c, k, n, rfl, hn2, hn5, by omega, hp, fun nv H1 nm o1 p1 N hnv => ?_⟩))))
    obtain ⟨pn, xs, rfl, fpn, hpn, rn⟩ := hnv
    have hnd : pn ≠ d := fun e => by obtain ⟨_, _, _, e1, _⟩ := p1.ex; rw [e, e1] at hpn; cases hpn
    dsimp only
    refine r_seq (r_asg (r_call3 (r_var rfl (r_var rfl (r_c ⟨⟨(nm, n), N⟩, d, c, k + n, .ref pn, rfl, ⟨pn, xs, rfl, hpn, rn⟩, by show 1 ≤ n; omega, by omega, p1, fun v1 H2 T o2 p2 hT wT mT => ?_⟩)))))
    have hpn2 := o2 _ _ hnd hpn
    have t12 := p1.tups o2
    dsimp only at hT wT mT ⊢
    refine r_seq (r_asg (r_call3 (r_var rfl (r_var rfl (r_c ⟨⟨(nm, n), N⟩, d, c, k + n + 30, .ref pn, rfl, ⟨pn, xs, rfl, hpn2, rn.imp fun _ _ z => z⟩, by show 1 ≤ n; omega, by omega, p2, fun v2 H3 G o3 p3 hG wG mG => ?_⟩)))))
    dsimp only at hG wG mG ⊢
    have t23 := p2.tups o3
    have o13 : Oth d H H3 := (o1.trans o2).trans o3
    have hT3 := tm_tr _ _ _ _ t23 hT
    refine r_seqI (fun σ H' => Oth d H H' ∧ Pen d c (k + n + 30 + 30 + 20) H' ∧ ∃ v3 G' a b e g, σ = [some (.ref d), some (.int n), some (.ref pn), some v1, some v3, a, b, e, g] ∧ TrV nm H' v1 T ∧ TrV nm H' v3 G' ∧ Wf n G' ∧ ∀ x, x ∈ G'.nm ↔ x < n) (fun nx' hnx => ?_) ?_
    · refine r_if (gt_testO (r_op (r_call2 (r_var rfl (r_c ⟨d, c, k + n + 30 + 30, 2, rfl, by decide, by decide, by omega, p3, fun j H4 hj o4 p4 => r_c ⟨rfl, ?_⟩⟩)))))
      have o14 := o13.trans o4
      have t34 := p3.tups o4
      have hT4 := tm_tr _ _ _ _ t34 hT3
      refine ⟨_, rfl, ?_⟩
      by_cases hj0 : j = 0
      · subst hj0
        refine iteT (r_seq (r_asg (r_var rfl ?_)))
        dsimp only
        refine r_rngO (r_op (r_call2 (r_var rfl (r_c ⟨d, c, k + n + 30 + 30 + 1, 3, rfl, by decide, by decide, by omega, p4, fun j2 H5 hj2 o5 p5 => r_b1 (r_op (r_var rfl (r_c ⟨_, _, rfl, rfl, .inr ⟨_, rfl, ?_⟩⟩)))⟩))))
        have hb : decide ((1 : Int) < (n : Nat)) = true := decide_eq_true (by omega)
        rw [hb]
        have ej : (j2 : Int) * (if true = true then 1 else 0) = ((j2 : Nat) : Int) := by simp
        refine ⟨_, _, rfl, rfl, .inr ⟨by decide, by decide⟩, j2, congrArg (fun z => [V.int z]) ej, by omega, by omega, ?_⟩
        rw [Int.toNat_natCast]
        have o15 := o14.trans o5
        have hT5 := tm_tr _ _ _ _ (p4.tups o5) hT4
        refine for_it (walk_range (lo := 0) (n := j2)) (fun i σ H' => Oth d H H' ∧ Pen d c (k + n + 30 + 30 + 2 + 2 * i) H' ∧ ∃ v3 G' a b e g, σ = [some (.ref d), some (.int n), some (.ref pn), some v1, some v3, a, b, e, g] ∧ TrV nm H' v1 T ∧ TrV nm H' v3 G' ∧ Wf n G' ∧ ∀ x, x ∈ G'.nm ↔ x < n) ⟨o15, p5, v1, T, none, none, none, none, rfl, hT5, hT5, wT, mT⟩ (fun _ _ _ _ _ => trivial) ?_ ?_
        · rintro i x σ H6' H6 hi ⟨o6, p6, v3, G', a, b, e, g, rfl, hT6, hG6, wG', mG'⟩ ⟨rfl, rfl⟩
          refine r_seq (r_asg (r_call1 (r_var rfl ⟨⟨(nm, n), N⟩, G', ⟨v3, rfl, hG6, wG'⟩, fun mv H7 s7 ⟨pm, ms, Ss, em, fm, hpm, rm, hSs, hSl⟩ => ?_⟩)))
          subst em
          dsimp only at rm hSs hSl ⊢
          obtain ⟨ga, gb, eG⟩ := fk_of_two hn2 mG'
          have hne : 0 < Ss.length := List.length_pos_of_mem ((hSs ga).mpr ⟨by rw [eG]; exact sub_fk.mpr (.inr (.inl (self_sub _))), fun e => by rw [eG] at e; exact absurd (congrArg Tr.sz e) (by simp only [Tr.sz]; have := sz_pos gb; omega)⟩)
          have p7 := p6.same s7
          have hml := rm.len
          refine r_seq (r_asgP (r_op (r_var rfl (r_call2 (r_var rfl (gv_use (gv_len (n := Ss.length) (gv_var (R := fun H v => ∃ p xs, v = .ref p ∧ (SqL K H p xs ∨ SqT K H p xs) ∧ xs.length = Ss.length) rfl ⟨pm, ms, rfl, .inl (SqL.of hpm), hml⟩)) fun y H8 s8 ey => ⟨d, c, k + n + 30 + 30 + 2 + 2 * i, (Ss.length : Nat), by rw [ey], by omega, by omega, by omega, p7.same s8, fun j3 H9 hj3 o9 p9 => ?_⟩))))))
          have hmd : pm ≠ d := fun e => by obtain ⟨_, _, _, e1, _⟩ := p7.ex; rw [e, e1] at hpm; cases hpm
          have o79 : Oth d H7 H9 := (oth_same s8).trans o9
          have t79 := p7.tups o79
          have hpm9 := o79 _ _ hmd hpm
          have hjl : j3 < ms.length := by omega
          obtain ⟨S, hS, R, L, px, x1, pq, ys, hR, hN, _, ev, hpx, hx1, _, hpq, rL⟩ := rm.get (List.getElem?_eq_getElem hjl)
          have hSm := (hSs S).mp (List.mem_of_getElem? hS)
          have hpqd : pq ≠ d := fun e => by obtain ⟨_, _, _, e1, _⟩ := p7.ex; rw [e, e1] at hpq; cases hpq
          have hpx9 := t79 _ _ hpx trivial
          have hpq9 := o79 _ _ hpqd hpq
          have hx9 := tm_lot _ _ _ _ t79 hx1
          have rL9 := rL.imp fun _ _ z => tm_lot _ _ _ _ t79 z
          refine ⟨pm, ms, j3, ms[j3]'hjl, rfl, rfl, SqL.of hpm9, atI_nat (List.getElem?_eq_getElem hjl), px, [x1, .ref pq], ev, SqT.of hpx9, rfl, x1, _, rfl, .ref pq, _, rfl, rfl, ?_⟩
          have hLl := rL.len
          have hLpos : 0 < L.length := List.length_pos_of_mem ((hN.mem _).mpr ⟨R, self_sub _, rfl⟩)
          have wR : Wf n R := wG'.res hR
          have hL9 : L.length ≤ 9 := Nat.le_trans hN.len (wR.sz hn5)
          have hv39 := tm_tr _ _ _ _ t79 (tm_tr.same s7 hG6)
          refine r_asg (r_call3 (r_var rfl (r_var rfl (r_op (r_var rfl (r_call2 (r_var rfl (gv_use (gv_len (n := L.length) (gv_var (R := fun H v => ∃ p xs, v = .ref p ∧ (SqL K H p xs ∨ SqT K H p xs) ∧ xs.length = L.length) rfl ⟨pq, ys, rfl, .inl (SqL.of hpq9), hLl⟩)) fun y H10 s10 ey => ⟨d, c, k + n + 30 + 30 + 2 + 2 * i + 1, (L.length : Nat), by rw [ey], by omega, by omega, by omega, p9.same s10, fun j4 H11 hj4 o11 p11 => ?_⟩))))))))
          have o9_11 : Oth d H9 H11 := (oth_same s10).trans o11
          have t9_11 := p9.tups o9_11
          have hjl4 : j4 < ys.length := by omega
          obtain ⟨l, hl, rl4⟩ := rL9.get (List.getElem?_eq_getElem hjl4)
          obtain ⟨P0, hP0, rfl⟩ := (hN.mem l).mp (List.mem_of_getElem? hl)
          obtain ⟨T', hPut⟩ := put_ex S hP0
          have hmv : Mv S R P0 G' T' := ⟨hSm.1, hR, hPut⟩
          refine ⟨pq, ys, j4, ys[j4]'hjl4, rfl, rfl, SqL.of (o9_11 _ _ hpqd hpq9), atI_nat (List.getElem?_eq_getElem hjl4), ⟨(nm, n), N⟩, (G', S, R, P0, T'), ⟨v3, x1, _, rfl, tm_tr _ _ _ _ t9_11 hv39, tm_lot _ _ _ _ t9_11 hx9, tm_lot _ _ _ _ t9_11 rl4, wG', hmv⟩, fun r H12 s12 hr12 => ?_⟩
          have o6_12 : Oth d H6 H12 := ((oth_same s7).trans o79).trans (o9_11.trans (oth_same s12))
          refine ⟨o6.trans o6_12, by have := p11.same s12; rw [show k + n + 30 + 30 + 2 + 2 * (i + 1) = k + n + 30 + 30 + 2 + 2 * i + 1 + 1 by omega]; exact this, r, T', _, _, _, _, rfl, tm_tr _ _ _ _ (p6.tups o6_12) hT6, hr12, wG'.mv hmv, fun x => by rw [hmv.nm, mG']⟩
        · rintro σ H6 ⟨o6, p6, v3, G', a, b, e, g, rfl, hT6, hG6, wG', mG'⟩
          exact hnx _ _ ⟨o6, p6.le (by omega), v3, G', a, b, e, g, rfl, hT6, hG6, wG', mG'⟩
      · have hb : decide (V.int (j : Nat) = V.int 0) = false := decide_eq_false fun e => hj0 (by have := V.int.inj e; omega)
        rw [hb]
        refine iteF (r_next (hnx _ _ ⟨o14, p4.le (by omega), v2, G, none, none, none, none, rfl, hT4, tm_tr _ _ _ _ t34 hG, wG, mG⟩))
    · rintro σ H4 ⟨o4, p4, v3, G', a, b, e, g, rfl, hT4, hG4, wG', mG'⟩
      refine r_ret (gv_use (gv_pair (a := T) (b := G') tm_tr (tm_tr (nm := nm)) (gv_var (R := fun H r => TrV nm H r T) rfl hT4) fun H5 s5 => gv_var (R := fun H r => TrV nm H r G') rfl (tm_tr.same s5 hG4)) fun r H5 s5 hr5 => q r H5 nm T G' (o4.trans (oth_same s5)) ((p4.same s5).le (by omega)) N hr5 wT wG' mT mG')
end
end Jw
end

section
set_option Elab.async false
set_option linter.all false
set_option maxRecDepth 100000
set_option maxHeartbeats 4000000
/-! The law's own defs: far. -/
namespace Jt
open Jt.Tr
/-! ### there are few trees -/
def enc : Tr → List Nat
  | lf i => [i]
  | fk a b => 5 :: (enc a ++ enc b)
theorem enc_len : ∀ t : Tr, (enc t).length = t.sz
  | lf _ => rfl
  | fk a b => by simp only [enc, List.length_cons, List.length_append, enc_len a, enc_len b, Tr.sz]
theorem enc_parse : ∀ {t u : Tr} {r s : List Nat}, (∀ x ∈ t.nm, x < 5) → (∀ x ∈ u.nm, x < 5) → enc t ++ r = enc u ++ s → t = u ∧ r = s
  | lf i, lf j, r, s, _, _, e => by
    simp only [enc, List.singleton_append, List.cons.injEq] at e
    exact ⟨by rw [e.1], e.2⟩
  | lf i, fk a b, r, s, ht, _, e => by
    simp only [enc, List.singleton_append, List.cons_append, List.cons.injEq] at e
    have := ht i (by simp [Tr.nm])
    omega
  | fk a b, lf j, r, s, _, hu, e => by
    simp only [enc, List.singleton_append, List.cons_append, List.cons.injEq] at e
    have := hu j (by simp [Tr.nm])
    omega
  | fk a b, fk c d, r, s, ht, hu, e => by
    simp only [enc, List.cons_append, List.cons.injEq, true_and, List.append_assoc] at e
    obtain ⟨h1, h2⟩ := enc_parse (fun x hx => ht x (List.mem_append_left _ hx)) (fun x hx => hu x (List.mem_append_left _ hx)) e
    obtain ⟨h3, h4⟩ := enc_parse (fun x hx => ht x (List.mem_append_right _ hx)) (fun x hx => hu x (List.mem_append_right _ hx)) h2
    exact ⟨by rw [h1, h3], h4⟩
theorem enc_lt : ∀ {t : Tr}, (∀ x ∈ t.nm, x < 5) → ∀ c ∈ enc t, c < 6
  | lf i, h, c, hc => by
    simp only [enc, List.mem_singleton] at hc
    have := h i (by simp [Tr.nm])
    omega
  | fk a b, h, c, hc => by
    simp only [enc, List.mem_cons, List.mem_append] at hc
    rcases hc with hc | hc | hc
    · omega
    · exact enc_lt (fun x hx => h x (List.mem_append_left _ hx)) c hc
    · exact enc_lt (fun x hx => h x (List.mem_append_right _ hx)) c hc
def val : List Nat → Nat
  | [] => 0
  | c :: l => c + 6 * val l
theorem val_lt : ∀ {l : List Nat}, (∀ c ∈ l, c < 6) → val l < 6 ^ l.length
  | [], _ => by simp [val]
  | c :: l, h => by
    have h1 := h c List.mem_cons_self
    have h2 := val_lt (l := l) fun x hx => h x (List.mem_cons_of_mem _ hx)
    simp only [val, List.length_cons, Nat.pow_succ]
    omega
theorem val_inj : ∀ {l m : List Nat}, l.length = m.length → (∀ c ∈ l, c < 6) → (∀ c ∈ m, c < 6) → val l = val m → l = m
  | [], [], _, _, _, _ => rfl
  | [], _ :: _, h, _, _, _ => by simp at h
  | _ :: _, [], h, _, _, _ => by simp at h
  | c :: l, d :: m, h, h1, h2, e => by
    have hc := h1 c List.mem_cons_self
    have hd := h2 d List.mem_cons_self
    simp only [val] at e
    have e1 : c = d := by omega
    have e2 : val l = val m := by omega
    rw [e1, val_inj (by simpa using h) (fun x hx => h1 x (List.mem_cons_of_mem _ hx)) (fun x hx => h2 x (List.mem_cons_of_mem _ hx)) e2]
/-- so many trees of the same names are not apart -/
theorem few_trees {n : Nat} (h5 : n ≤ 5) {ts : List Tr} (hn : ts.Nodup) (hw : ∀ t ∈ ts, Wf n t ∧ ∀ x, x ∈ t.nm ↔ x < n) : ts.length ≤ 6 ^ 9 := by
  have hlen : ∀ t ∈ ts, t.nm.length = n := fun t ht => by
    obtain ⟨w, h⟩ := hw t ht
    have hp : t.nm.Perm (List.range n) := (List.perm_ext_iff_of_nodup (nm_nodup w.ok) List.nodup_range).mpr fun x => by rw [h, List.mem_range]
    rw [hp.length_eq, List.length_range]
  have hlt : ∀ t ∈ ts, ∀ x ∈ t.nm, x < 5 := fun t ht x hx => by have := (hw t ht).1.lt x hx; omega
  have hsz : ∀ t ∈ ts, t.sz + 1 = 2 * n := fun t ht => by rw [← hlen t ht]; exact sz_nm t
  have hnd : (ts.map fun t => val (enc t)).Nodup := List.pairwise_map.mpr (hn.imp_of_mem fun {a b} ha hb hne e => hne (by
    have e2 := val_inj (by rw [enc_len, enc_len]; have := hsz a ha; have := hsz b hb; omega) (enc_lt (hlt a ha)) (enc_lt (hlt b hb)) e
    exact (enc_parse (r := []) (s := []) (hlt a ha) (hlt b hb) (by rw [e2])).1))
  have := len_lt (n := 6 ^ 9) hnd fun x hx => by
    obtain ⟨t, ht, rfl⟩ := List.mem_map.mp hx
    refine Nat.lt_of_lt_of_le (val_lt (enc_lt (hlt t ht))) (Nat.pow_le_pow_right (by decide) ?_)
    rw [enc_len]
    have := hsz t ht
    omega
  simpa using this
/-! ### distances -/
section
variable {G T U : Tr} {k d : Nat}
theorem Step.mv {T U : Tr} (h : Step T U) : ∃ S R P, Mv S R P T U := h
theorem dist_zero (h : IsDist G T 0) : T = G := by
  obtain ⟨h, _⟩ := h
  cases h; rfl
theorem dist_pred (h : IsDist G T (k + 1)) : ∃ U, IsDist G U k ∧ Step U T := by
  obtain ⟨h, hm⟩ := h
  cases h with
  | snoc h s =>
    rename_i U
    refine ⟨U, ⟨h, fun j hj => ?_⟩, s⟩
    have := hm _ (.snoc hj s)
    omega
theorem dist_succ (h : IsDist G U k) (s : Step U T) (hno : ∀ j, j ≤ k → ¬ IsDist G T j) (hG : G.ok) (same : ∀ x, x ∈ G.nm ↔ x ∈ T.nm) (hT : T.ok) : IsDist G T (k + 1) := by
  obtain ⟨d, hd, _⟩ := dist_ex hT hG fun x => (same x).symm
  have h1 := hd.2 _ (.snoc h.1 s)
  have h2 : ¬ d ≤ k := fun z => hno d z hd
  have : d = k + 1 := by omega
  rw [← this]; exact hd
end
end Jt
namespace Jt
section
variable {G T U : Tr} {k d n : Nat}
theorem wf_dist (w : Wf n G) (mG : ∀ x, x ∈ G.nm ↔ x < n) (h : IsDist G T d) : Wf n T ∧ ∀ x, x ∈ T.nm ↔ x < n := by
  have hm := h.1.nm
  exact ⟨⟨h.1.ok w.ok, fun x hx => w.lt x ((hm x).mp hx)⟩, fun x => by rw [hm, mG]⟩
theorem dist_down : ∀ {j : Nat} {T : Tr}, IsDist G T (k + j) → ∃ U, IsDist G U k
  | 0, T, h => ⟨T, h⟩
  | j + 1, T, h => by
    obtain ⟨U, h1, _⟩ := dist_pred (k := k + j) h
    exact dist_down h1
/-- what is found at the k-th level -/
structure FarS (G : Tr) (k : Nat) (fs : List (Tr × Nat)) : Prop where
  mem : ∀ c ∈ fs, IsDist G c.1 c.2 ∧ c.2 ≤ k
  all : ∀ T e, IsDist G T e → e ≤ k → T ∈ fs.map (·.1)
  nd : (fs.map (·.1)).Nodup
/-- and of the next one -/
structure FarN (G : Tr) (k : Nat) (fs : List (Tr × Nat)) (lt : List Tr) : Prop where
  new : ∀ T ∈ lt, IsDist G T (k + 1)
  nd : (fs.map (·.1) ++ lt).Nodup
def allf (k : Nat) (fs : List (Tr × Nat)) (lt : List Tr) : List (Tr × Nat) := fs ++ lt.map fun T => (T, k + 1)
theorem allf_keys (k : Nat) (fs : List (Tr × Nat)) (lt : List Tr) : (allf k fs lt).map (·.1) = fs.map (·.1) ++ lt := by
  unfold allf
  rw [List.map_append, List.map_map]
  exact congrArg _ (List.map_id lt)
theorem FarS.next {fs : List (Tr × Nat)} {lt : List Tr} (h : FarS G k fs) (h' : FarN G k fs lt) (hall : ∀ U, IsDist G U k → ∀ T, Step U T → T ∈ fs.map (·.1) ∨ T ∈ lt) : FarS G (k + 1) (allf k fs lt) ∧ ∀ T, T ∈ lt ↔ IsDist G T (k + 1) := by
  have hk : ∀ T, IsDist G T (k + 1) → T ∈ lt := fun T hT => by
    obtain ⟨U, hU, s⟩ := dist_pred hT
    rcases hall U hU T s with z | z
    · obtain ⟨c, hc, rfl⟩ := List.mem_map.mp z
      have := h.mem c hc
      have := this.1.uniq hT
      omega
    · exact z
  refine ⟨⟨fun c hc => ?_, fun T e hT he => ?_, by rw [allf_keys]; exact h'.nd⟩, fun T => ⟨h'.new T, hk T⟩⟩
  · rcases List.mem_append.mp hc with z | z
    · have := h.mem c z; exact ⟨this.1, by omega⟩
    · obtain ⟨T, hT, rfl⟩ := List.mem_map.mp z
      exact ⟨h'.new T hT, Nat.le_refl _⟩
  · rw [allf_keys, List.mem_append]
    rcases Nat.lt_or_ge k e with z | z
    · have : e = k + 1 := by omega
      subst this
      exact .inr (hk T hT)
    · exact .inl (h.all T e hT z)
theorem FarN.add {fs : List (Tr × Nat)} {lt : List Tr} (hS : FarS G k fs) (h : FarN G k fs lt) (hG : G.ok) (hU : IsDist G U k) (s : Step U T) (hn : T ∉ fs.map (·.1) ++ lt) : FarN G k fs (lt ++ [T]) := by
  have hUok := hU.1.ok hG
  have hTd := dist_succ hU s (fun j hj hd => hn (List.mem_append_left _ (hS.all T j hd hj))) hG (fun x => by rw [s.nm, hU.1.nm]) (s.ok hUok)
  refine ⟨fun T' hT' => ?_, ?_⟩
  · rcases List.mem_append.mp hT' with z | z
    · exact h.new T' z
    · rw [List.mem_singleton.mp z]; exact hTd
  · rw [← List.append_assoc]
    exact List.nodup_append.mpr ⟨h.nd, by simp, fun x hx y hy e => by rw [List.mem_singleton.mp hy] at e; exact hn (e ▸ hx)⟩
theorem FarN.len {fs : List (Tr × Nat)} {lt : List Tr} (hS : FarS G k fs) (h : FarN G k fs lt) (h5 : n ≤ 5) (w : Wf n G) (mG : ∀ x, x ∈ G.nm ↔ x < n) : fs.length + lt.length ≤ 6 ^ 9 := by
  have := few_trees h5 h.nd fun t ht => by
    rcases List.mem_append.mp ht with z | z
    · obtain ⟨c, hc, rfl⟩ := List.mem_map.mp z
      exact wf_dist w mG (hS.mem c hc).1
    · exact wf_dist w mG (h.new t z)
  simpa using this
end
end Jt
namespace Jw
open PySem PySem.Spec PyProof.Rows L2 Jt JH
section
variable {P : Program} {w : World} {K : PySem.W.Frag} {mg : Str → Option Value} {base : Heap} {f : Addr} {fd : FuncData} {nm : Nat → Str} {n : Nat}
/-! ### the dict of the texts -/
def fsK (nm : Nat → Str) (fs : List (Tr × Nat)) : List (Key × V) := fs.map fun c => ((.inr (txt nm c.1) : Key), V.int (c.2 : Nat))
def lk (T : Tr) : List (Tr × Nat) → Option Nat
  | [] => none
  | c :: fs => if c.1 = T then some c.2 else lk T fs
theorem lk_mem {T : Tr} {e : Nat} : ∀ {fs : List (Tr × Nat)}, lk T fs = some e → (T, e) ∈ fs
  | [], h => by cases h
  | c :: fs, h => by
    unfold lk at h
    split at h
    · rename_i hc
      cases h
      rw [← hc]; exact List.mem_cons_self
    · exact List.mem_cons_of_mem _ (lk_mem h)
theorem lk_none {T : Tr} : ∀ {fs : List (Tr × Nat)}, lk T fs = none ↔ T ∉ fs.map (·.1)
  | [] => by simp [lk]
  | c :: fs => by
    unfold lk
    split
    · rename_i hc
      simp [hc]
    · rename_i hc
      rw [lk_none, List.map_cons, List.mem_cons, not_or]
      exact ⟨fun h => ⟨fun e => hc e.symm, h⟩, fun h => h.2⟩
theorem val_fs (N : Nm nm n) {T : Tr} (hT : ∀ x ∈ T.nm, x < n) : ∀ {fs : List (Tr × Nat)}, (∀ c ∈ fs, ∀ x ∈ c.1.nm, x < n) → valV (fsK nm fs) (.inr (txt nm T)) = (lk T fs).map fun e => V.int (e : Nat)
  | [], _ => rfl
  | c :: fs, h => by
    have ih := val_fs N hT (fs := fs) fun c hc => h c (List.mem_cons_of_mem _ hc)
    unfold lk
    by_cases e : c.1 = T
    · rw [if_pos e]
      show valV ((_, _) :: fsK nm fs) _ = _
      rw [valV_pos (by rw [e])]; rfl
    · rw [if_neg e]
      show valV ((_, _) :: fsK nm fs) _ = _
      rw [valV_neg (fun z => e (txt_inj N (h c List.mem_cons_self) hT (Sum.inr.inj z))), ih]
theorem putK_new {kvs : List (Key × V)} {k : Key} {v : V} (h : valV kvs k = none) : putK kvs k v = kvs ++ [(k, v)] := by
  unfold putK
  rw [valV_any, h]
  rfl
/-! ### _law_far -/
def Kn (fs : List (Tr × Nat)) (lt : List Tr) (T : Tr) : Prop := T ∈ fs.map (·.1) ∨ T ∈ lt
theorem Kn.mono {fs : List (Tr × Nat)} {lt lt' : List Tr} {T : Tr} (h : Kn fs lt T) (s : ∀ T, T ∈ lt → T ∈ lt') : Kn fs lt' T := h.imp id (s T)
theorem fsK_add (nm : Nat → Str) (k : Nat) (fs : List (Tr × Nat)) (lt : List Tr) (T : Tr) : fsK nm (allf k fs (lt ++ [T])) = fsK nm (allf k fs lt) ++ [(.inr (txt nm T), V.int ((k + 1 : Nat) : Int))] := by
  simp [fsK, allf]

/-- all but the two stands as it was -/
def Keep (d D : Addr) (H H' : Hp) : Prop := ∀ a o, a ≠ d → a ≠ D → H a = some o → H' a = some o
theorem Keep.refl (d D : Addr) (H : Hp) : Keep d D H H := fun _ _ _ _ h => h
theorem Keep.trans {d D : Addr} {H H1 H2 : Hp} (a : Keep d D H H1) (b : Keep d D H1 H2) : Keep d D H H2 := fun x o n1 n2 h => b x o n1 n2 (a x o n1 n2 h)
theorem keep_same {d D : Addr} {H H' : Hp} (s : Same H H') : Keep d D H H' := fun x o _ _ h => s x o h
theorem Keep.tups {d D : Addr} {H H' : Hp} {kvs : List (Key × V)} {ys : List V} (h : Keep d D H H') (hd : H d = some (.dK kvs)) (hD : H D = some (.lst ys)) : Tups H H' := fun x o hx hn => by
  by_cases e : x = d
  · subst e; rw [hd] at hx; cases hx; exact hn.elim
  · by_cases e2 : x = D
    · subst e2; rw [hD] at hx; cases hx; exact hn.elim
    · exact h x o e e2 hx
structure FarH (nm : Nat → Str) (d D : Addr) (H H' : Hp) (fs : List (Tr × Nat)) (lt : List Tr) : Prop where
  same : Same H H'
  dict : H' d = some (.dK (fsK nm fs))
  lst : ∃ ys, H' D = some (.lst ys) ∧ P2 (TrV nm H') ys lt
theorem FarH.to {d D : Addr} {H H1 H2 : Hp} {fs : List (Tr × Nat)} {lt : List Tr} (h : FarH nm d D H H1 fs lt) (s : Same H1 H2) : FarH nm d D H H2 fs lt :=
  ⟨h.same.trans s, s _ _ h.dict, let ⟨ys, h1, h2⟩ := h.lst; ⟨ys, s _ _ h1, h2.imp fun _ _ k => tm_tr.same s k⟩⟩
theorem FarH.tups {d D : Addr} {H H1 H2 : Hp} {fs : List (Tr × Nat)} {lt : List Tr} (h : FarH nm d D H H1 fs lt) (k : Keep d D H1 H2) : Tups H1 H2 := let ⟨_, h1, _⟩ := h.lst; k.tups h.dict h1
theorem r_dnotin {td ty : TE} {σ : L2.St} {H : Hp} {Q : VK} (h : ty σ H fun y H1 => td σ H1 fun x H2 => ∃ a o, x = .ref a ∧ DGet H2 a y o ∧ Q (.bl (!o.isSome)) H2) : tDNotIn ty td σ H Q := h
def spFar (nm : Nat → Str) (n : Nat) : Sp := Pur (ι := Tr) (fun t vs H => ∃ v, vs = [v] ∧ TrV nm H v t ∧ Wf n t ∧ ∀ x, x ∈ t.nm ↔ x < n) (fun t H0 H r => ∃ d fs, r = .ref d ∧ H0 d = none ∧ H d = some (.dK (fsK nm fs)) ∧ ∀ T, Wf n T → (∀ x, x ∈ T.nm ↔ x < n) → ∃ e, IsDist t T e ∧ valV (fsK nm fs) (.inr (txt nm T)) = some (.int (e : Nat)))
theorem sc__law_far : FnScope ["_law_one", "_law_found", "_law_now", "_law_far_on", "_law_later", "_law_tree_here", "_law_lot", "_law_places", "_law_place", "_law_other"] ["_law_one"] (defScope s_lawfar) := ⟨rfl, rfl, rfl, by decide +kernel, rfl, by decide +kernel, by decide +kernel⟩
theorem ok__law_far (F : FnD K "_law_far" s_lawfar f fd) (B : Bi mg) (N : Nm nm n) (c__law_text : Cal P w K mg base 10 "_law_text" ["_law_tree_here"] (spText nm n 9)) (c__law_moves : Cal P w K mg base 12 "_law_moves" ["_law_tree_here"] (spLawMoves nm n)) (c__law_moved : Cal P w K mg base 12 "_law_moved" ["_law_tree_here", "_law_lot", "_law_place"] (spLawMoved nm n)) :
    FnOk P w K mg base CX0 13 f fd ["_law_one"] (spFar nm n) := by
  refine F.ok sc__law_far (fun vs H Q E h => ?_) (fun cdv A outer s H vs Q E hr h => ?_)
  · obtain ⟨_, ⟨_, rfl, _⟩, _⟩ := h; rfl
  · obtain ⟨G, ⟨v, rfl, hv, hw, mG⟩, q⟩ := h
    have hu := hr.units
    have hu1 : A.units + 4 < cLine := by have := hr.un; have : (A.deeper (envOfC (Str.ofString "_law_far") (defScope s_lawfar) s.heap.objs.size f cdv)).units = A.units + 3 := rfl; omega
    refine ⟨_, PSs.nox (pss_cons (ps_set (i := 1) sc__law_far.nd rfl (by first | exact Or.inl rfl | exact Or.inr rfl) (pe_disp (pps_cons (pe_cal c__law_text (hr.mono (by first | decide | omega)) (pa_cons (pv 0) pa_nil)) (pe_int) pps_nil) rfl rfl (by simp) (by decide)))
      (pss_cons (ps_set (i := 2) sc__law_far.nd rfl (by first | exact Or.inl rfl | exact Or.inr rfl) (pe_lst (pa_cons (pv 0) pa_nil)))
      (pss_cons (ps_set (i := 3) sc__law_far.nd rfl (by first | exact Or.inl rfl | exact Or.inr rfl) (pe_int))
      (pss_cons (ps_while PassesOwn.never (pt_cmpR (neD K hu) (pv 2) (pe_lst pa_nil) (by rfl)) (pss_cons (ps_set (i := 3) sc__law_far.nd rfl (by first | exact Or.inl rfl | exact Or.inr rfl) (pe_op op_add (pv 3) (pe_int)))
      (pss_cons (ps_set (i := 4) sc__law_far.nd rfl (by first | exact Or.inl rfl | exact Or.inr rfl) (pe_lst pa_nil))
      (pss_cons (ps_for PassesOwn.never rfl (piL K (pv 2)) (pg_name (i := 5) sc__law_far.nd rfl (by first | exact Or.inl rfl | exact Or.inr rfl)) (pss_one (ps_for PassesOwn.never rfl (piL K (pe_cal c__law_moves (hr.mono (by first | decide | omega)) (pa_cons (pv 5) pa_nil))) (pg_tup rfl (pgs_cons (pg_name (i := 6) sc__law_far.nd rfl (by first | exact Or.inl rfl | exact Or.inr rfl)) (pgs_cons (pg_name (i := 7) sc__law_far.nd rfl (by first | exact Or.inl rfl | exact Or.inr rfl)) pgs_nil))) (pss_one (ps_for PassesOwn.never rfl (piL K (pv 7)) (pg_name (i := 8) sc__law_far.nd rfl (by first | exact Or.inl rfl | exact Or.inr rfl)) (pss_cons (ps_set (i := 9) sc__law_far.nd rfl (by first | exact Or.inl rfl | exact Or.inr rfl) (pe_cal c__law_moved (hr.mono (by first | decide | omega)) (pa_cons (pv 5) (pa_cons (pv 6) (pa_cons (pv 8) pa_nil)))))
      (pss_one (ps_if (pt_cmp (pc_dnotin hu1 (pe_cal c__law_text (hr.mono (by first | decide | omega)) (pa_cons (pv 9) pa_nil)) (pv 1))) (pss_cons (ps_dput hu1 (pv 1) (pe_cal c__law_text (hr.mono (by first | decide | omega)) (pa_cons (pv 9) pa_nil)) (pv 3) rfl)
      (pss_one (ps_expr (pe_bm PySem.F.plainAttrs_list PySem.F.slot_list_append PySem.F.type_list_append mt_append (pv 4) (pa_cons (pv 9) pa_nil))))) pss_nil))))))))
      (pss_one (ps_set (i := 2) sc__law_far.nd rfl (by first | exact Or.inl rfl | exact Or.inr rfl) (pv 4)))))))
      (pss_one (ps_ret (pv 1))))))), ?_⟩
    have hsl : sizeLine = 16777216 := by decide
    have h69 : (6 : Nat) ^ 9 = 10077696 := by decide
    have hfw := N.few
    have hGn : G.nm.length = n := by
      have hp : G.nm.Perm (List.range n) := (List.perm_ext_iff_of_nodup (nm_nodup hw.ok) List.nodup_range).mpr fun x => by rw [mG, List.mem_range]
      rw [hp.length_eq, List.length_range]
    refine r_seq (r_asg fun d hd => ?_)
    have sd : Same H (upd H d (.dK [])) := same_new hd _
    refine r_call1 (r_var rfl ⟨G, ⟨v, rfl, tm_tr.same sd hv, hw, hw.sz hfw⟩, fun r H2 s2 er => ?_⟩)
    subst er
    have hd2 : H2 d = some (.dK []) := s2 _ _ upd_same
    have s02 := sd.trans s2
    refine r_c ⟨hd2, [(.inr (txt nm G), .int 0)], rfl, by simp, ?_⟩
    have em : mergeK [] [((.inr (txt nm G) : Key), V.int 0)] = fsK nm [(G, 0)] := by simp [mergeK, putK, fsK]
    rw [em]
    have s03 : Same H (upd H2 d (.dK (fsK nm [(G, 0)]))) := same_mut s02 hd
    have hd3 : upd H2 d (.dK (fsK nm [(G, 0)])) d = some (.dK (fsK nm [(G, 0)])) := upd_same
    generalize upd H2 d (.dK (fsK nm [(G, 0)])) = H3 at s03 hd3 ⊢
    refine r_seq (r_asg (r_lst1 (r_var rfl ⟨one_line, fun p0 hp0 => ?_⟩)))
    have s34 : Same H3 (upd H3 p0 (.lst [v])) := same_new hp0 _
    have hp04 : upd H3 p0 (.lst [v]) p0 = some (.lst [v]) := upd_same
    generalize upd H3 p0 (.lst [v]) = H4 at s34 hp04 ⊢
    have s04 := s03.trans s34
    refine r_seq (r_asg (r_c ?_))
    refine r_seq ⟨fun m σ H' => ∃ (k : Nat) (fs : List (Tr × Nat)) (ts : List Tr) (pn : Addr) (ys : List V) (a1 a2 a3 a4 a5 a6 : Option V), m = 6 - k ∧ σ = [some v, some (.ref d), some (.ref pn), some (.int k), a1, a2, a3, a4, a5, a6] ∧ Same H H' ∧ H' d = some (.dK (fsK nm fs)) ∧ H' pn = some (.lst ys) ∧ P2 (TrV nm H') ys ts ∧ FarS G k fs ∧ ∀ T, T ∈ ts ↔ IsDist G T k, ⟨_, 0, [(G, 0)], [G], p0, [v], none, none, none, none, none, none, rfl, rfl, s04, s34 _ _ hd3, hp04, .cons (tm_tr.same s04 hv) .nil, ⟨fun c hc => ?_, fun T e hT he => ?_, by simp⟩, fun T => ?_⟩, ?_⟩
    · rw [List.mem_singleton.mp hc]; exact ⟨isDist_self, Nat.le_refl _⟩
    · have : e = 0 := by omega
      subst this
      rw [dist_zero hT]; simp
    · rw [List.mem_singleton]
      exact ⟨fun e => by rw [e]; exact isDist_self, fun h => dist_zero h⟩
    · rintro m σ H5 ⟨k, fs, ts, pn, ys, a1, a2, a3, a4, a5, a6, rfl, rfl, s05, hd5, hpn5, rts, hS, hts⟩
      have hwt : ∀ t ∈ ts, Wf n t := fun t ht => (wf_dist hw mG ((hts t).mp ht)).1
      refine gt_use (b := decide (ts ≠ [])) (gt_test (gv_neTs N (gv_var (R := fun H r => LstV (TrV nm) H r ts) rfl ⟨pn, ys, rfl, hpn5, rts⟩) hwt)) fun H6 s6 => ?_
      have s06 := s05.trans s6
      have hd6 := s6 _ _ hd5
      have hpn6 := s6 _ _ hpn5
      have rts6 := rts.imp fun _ _ z => tm_tr.same s6 z
      by_cases hne : ts = []
      · rw [decide_eq_false (fun z => z hne)]
        refine iteF (r_ret (r_var rfl (q _ _ s06 ⟨d, fs, rfl, hd, hd6, fun T wT mT => ?_⟩)))
        obtain ⟨e, he, _⟩ := dist_ex wT.ok hw.ok fun x => by rw [mT, mG]
        refine ⟨e, he, ?_⟩
        have hek : e ≤ k := by
          refine Classical.byContradiction fun z => ?_
          obtain ⟨j, rfl⟩ : ∃ j, e = k + j := ⟨e - k, by omega⟩
          obtain ⟨U, hU⟩ := dist_down he
          have := (hts U).mpr hU
          rw [hne] at this
          cases this
        rw [val_fs N wT.lt fun c hc => (wf_dist hw mG (hS.mem c hc).1).1.lt]
        have hin := hS.all T e he hek
        cases hl : lk T fs with
        | none => exact (lk_none.mp hl hin).elim
        | some e' =>
          have := (hS.mem _ (lk_mem hl)).1.uniq he
          simp only at this
          rw [this]; rfl
      · rw [decide_eq_true hne]
        obtain ⟨U0, hU0⟩ := List.exists_mem_of_ne_nil ts hne
        have hk5 : k ≤ 5 := by
          obtain ⟨wU, mU⟩ := wf_dist hw mG ((hts U0).mp hU0)
          obtain ⟨e, he, hle⟩ := dist_ex wU.ok hw.ok fun x => by rw [mU, mG]
          have := he.uniq ((hts U0).mp hU0)
          have := wU.len
          omega
        refine iteT ⟨fun σ' H' => ∃ (k' : Nat) (fs : List (Tr × Nat)) (ts : List Tr) (pn : Addr) (ys : List V) (a1 a2 a3 a4 a5 a6 : Option V), 6 - k' < 6 - k ∧ σ' = [some v, some (.ref d), some (.ref pn), some (.int k'), a1, a2, a3, a4, a5, a6] ∧ Same H H' ∧ H' d = some (.dK (fsK nm fs)) ∧ H' pn = some (.lst ys) ∧ P2 (TrV nm H') ys ts ∧ FarS G k' fs ∧ ∀ T, T ∈ ts ↔ IsDist G T k', fun σ' H' ⟨k', fs, ts, pn, ys, a1, a2, a3, a4, a5, a6, z1, z2⟩ => ⟨_, z1, k', fs, ts, pn, ys, a1, a2, a3, a4, a5, a6, rfl, z2⟩, ?_⟩
        refine r_seq (r_asg (r_op (r_var rfl (r_c ⟨_, _, rfl, rfl, ?_⟩))))
        refine r_seq (r_asg (r_nilL fun D hD => ?_))
        have hDH : H D = none := s06.free hD
        have hDd : D ≠ d := fun e => by rw [e, hd6] at hD; cases hD
        have hDn : D ≠ pn := fun e => by rw [e, hpn6] at hD; cases hD
        have s67 : Same H6 (upd H6 D (.lst [])) := same_new hD _
        have hD7 : upd H6 D (.lst []) D = some (.lst []) := upd_same
        generalize upd H6 D (.lst []) = H7 at s67 hD7 ⊢
        have hpn7 := s67 _ _ hpn6
        have rts7 := rts6.imp fun _ _ z => tm_tr.same s67 z
        have hnd : pn ≠ d := fun e => by rw [e, hd6] at hpn6; cases hpn6
        have f7 : FarH nm d D H H7 (allf k fs []) [] := ⟨s06.trans s67, by simpa [allf] using s67 _ _ hd6, [], hD7, .nil⟩
        dsimp only
        have keep_d : ∀ {Ha Hb : Hp} {o : HO}, Keep d D Ha Hb → Keep d D Ha (upd Hb d o) := fun h x o n1 n2 hx => by rw [upd_ne n1]; exact h x o n1 n2 hx
        have keep_D : ∀ {Ha Hb : Hp} {o : HO}, Keep d D Ha Hb → Keep d D Ha (upd Hb D o) := fun h x o n1 n2 hx => by rw [upd_ne n2]; exact h x o n1 n2 hx
        refine r_seq (r_forL (r_var rfl ⟨pn, rfl, ⟨ys, SqL.of hpn7⟩, for_it (walk_list (K := K) (a := pn) (xs := ys)) (fun i σ H' => ∃ lt, (∃ a b c e g, σ = [some v, some (.ref d), some (.ref pn), some (.int ((k : Int) + 1)), some (.ref D), a, b, c, e, g]) ∧ FarH nm d D H H' (allf k fs lt) lt ∧ Keep d D H7 H' ∧ FarN G k fs lt ∧ ∀ W ∈ ts.take i, ∀ T, Step W T → Kn fs lt T) ⟨[], ⟨_, _, _, _, _, rfl⟩, f7, Keep.refl _ _ _, ⟨fun T hT => (by cases hT), by simpa using hS.nd⟩, fun W hW => by simp at hW⟩ (fun i σ H' _ ⟨lt, _, _, kp, _⟩ => SqL.of (kp _ _ hnd (Ne.symm hDn) hpn7)) ?_ ?_⟩))
        · rintro i x σ H8' H8 hi ⟨lt, ⟨a, b, c, e, g, rfl⟩, f8, kp8, hN, hC1⟩ ⟨rfl, hxi⟩
          obtain ⟨U, hUi, rU⟩ := rts7.get hxi
          have hUt : U ∈ ts := List.mem_of_getElem? hUi
          have hUd := (hts U).mp hUt
          obtain ⟨wU, mU⟩ := wf_dist hw mG hUd
          have rU8 := tm_tr _ _ _ _ (f7.tups kp8) rU
          refine r_forL (r_call1 (r_var rfl ⟨U, ⟨x, rfl, rU8, wU⟩, fun mv H9 s9 ⟨pm, ms, Ss, em, fm, hpm, rm, hSs, hSl⟩ => ⟨pm, em, ⟨ms, SqL.of hpm⟩, ?_⟩⟩))
          have f9 := f8.to s9
          obtain ⟨ys8, hD8, _⟩ := f8.lst
          have new_d : ∀ {p : Addr}, H8 p = none → p ≠ d ∧ p ≠ D := fun h => ⟨fun e => (by rw [e, f8.dict] at h; cases h), fun e => (by rw [e, hD8] at h; cases h)⟩
          obtain ⟨hpmd, hpmD⟩ := new_d fm
          have rU9 := tm_tr.same s9 rU8
          refine for_it (walk_list (K := K) (a := pm) (xs := ms)) (fun j σ H' => ∃ lt', (∃ b c e g, σ = [some v, some (.ref d), some (.ref pn), some (.int ((k : Int) + 1)), some (.ref D), some x, b, c, e, g]) ∧ FarH nm d D H H' (allf k fs lt') lt' ∧ Keep d D H9 H' ∧ FarN G k fs lt' ∧ (∀ T, T ∈ lt → T ∈ lt') ∧ ∀ S ∈ Ss.take j, ∀ R P T, Mv S R P U T → Kn fs lt' T) ⟨lt, ⟨_, _, _, _, rfl⟩, f9, Keep.refl _ _ _, hN, fun _ h => h, fun S hS => by simp at hS⟩ (fun j σ H' _ ⟨lt', _, _, kp, _⟩ => SqL.of (kp _ _ hpmd hpmD hpm)) ?_ ?_
          · rintro j xm σ H10' H10 hj ⟨lt2, ⟨b, c, e, g, rfl⟩, f10, kp10, hN2, hsub2, hC2⟩ ⟨rfl, hxj⟩
            obtain ⟨S, hSj, R, L, px, x1, pq, zs, hR, hNd, fq, ev, hpx, hx1, _, hpq, rL⟩ := rm.get hxj
            subst ev
            have hSm := (hSs S).mp (List.mem_of_getElem? hSj)
            obtain ⟨hpqd, hpqD⟩ := new_d fq
            have t9_10 := f9.tups kp10
            have hpx10 := t9_10 _ _ hpx trivial
            have hx10 := tm_lot _ _ _ _ t9_10 hx1
            have hpq10 := kp10 _ _ hpqd hpqD hpq
            have rL10 := rL.imp fun _ _ z => tm_lot _ _ _ _ t9_10 z
            have rU10 := tm_tr _ _ _ _ t9_10 rU9
            have wR : Wf n R := wU.res hR
            refine ⟨px, [x1, .ref pq], rfl, SqT.of hpx10, rfl, x1, _, rfl, .ref pq, _, rfl, rfl, ?_⟩
            refine r_forL (r_var rfl ⟨pq, rfl, ⟨zs, SqL.of hpq10⟩, for_it (walk_list (K := K) (a := pq) (xs := zs)) (fun l σ H' => ∃ lt', (∃ e g, σ = [some v, some (.ref d), some (.ref pn), some (.int ((k : Int) + 1)), some (.ref D), some x, some x1, some (.ref pq), e, g]) ∧ FarH nm d D H H' (allf k fs lt') lt' ∧ Keep d D H10 H' ∧ FarN G k fs lt' ∧ (∀ T, T ∈ lt2 → T ∈ lt') ∧ ∀ P, nmS P ∈ L.take l → P ∈ R.subs → ∀ T, Mv S R P U T → Kn fs lt' T) ⟨lt2, ⟨_, _, rfl⟩, f10, Keep.refl _ _ _, hN2, fun _ h => h, fun P hP => by simp at hP⟩ (fun l σ H' _ ⟨lt', _, _, kp, _⟩ => SqL.of (kp _ _ hpqd hpqD hpq10)) ?_ ?_⟩)
            · rintro l xp σ H11' H11 hl ⟨lt3, ⟨e, g, rfl⟩, f11, kp11, hN3, hsub3, hC3⟩ ⟨rfl, hxl⟩
              obtain ⟨lp, hlp, rlp⟩ := rL10.get hxl
              obtain ⟨P0, hP0, rfl⟩ := (hNd.mem lp).mp (List.mem_of_getElem? hlp)
              obtain ⟨T', hPut⟩ := put_ex S hP0
              have hmv : Mv S R P0 U T' := ⟨hSm.1, hR, hPut⟩
              have t10_11 := f10.tups kp11
              have wT' := wU.mv hmv
              have hT9 := wT'.sz hfw
              have tk : L.take (l + 1) = L.take l ++ [nmS P0] := by rw [List.take_add_one, hlp]; rfl
              refine r_seq (r_asg (r_call3 (r_var rfl (r_var rfl (r_var rfl ⟨(U, S, R, P0, T'), ⟨x, x1, xp, rfl, tm_tr _ _ _ _ t10_11 rU10, tm_lot _ _ _ _ t10_11 hx10, tm_lot _ _ _ _ t10_11 rlp, wU, hmv⟩, fun r H12 s12 hr12 => ?_⟩)))))
              dsimp only at hr12 ⊢
              have f12 := f11.to s12
              have hfw3 : ∀ c ∈ allf k fs lt3, ∀ x ∈ c.1.nm, x < n := fun c hc => by
                rcases List.mem_append.mp hc with z | z
                · exact (wf_dist hw mG (hS.mem c z).1).1.lt
                · obtain ⟨T, hT, rfl⟩ := List.mem_map.mp z
                  exact (wf_dist hw mG (hN3.new T hT)).1.lt
              have hval := val_fs N wT'.lt hfw3
              have hcov : ∀ lt', (∀ T, T ∈ lt3 → T ∈ lt') → Kn fs lt' T' → ∀ P, nmS P ∈ L.take (l + 1) → P ∈ R.subs → ∀ T, Mv S R P U T → Kn fs lt' T := fun lt' hs hk P hP hPs T hm => by
                rw [tk] at hP
                rcases List.mem_append.mp hP with z | z
                · exact (hC3 P z hPs T hm).mono hs
                · have : P = P0 := nmS_inj wR.ok hPs hP0 (List.mem_singleton.mp z)
                  subst this
                  rw [hm.put.det wR.ok hmv.put]
                  exact hk
              refine r_if (gt_use (b := decide (T' ∉ fs.map (·.1) ++ lt3)) (gt_gv fun Q' q' => r_dnotin (r_call1 (r_var rfl ⟨T', ⟨r, rfl, hr12, wT', hT9⟩, fun y H13 s13 ey => r_var rfl ⟨d, valV (fsK nm (allf k fs lt3)) (.inr (txt nm T')), rfl, by rw [ey]; exact DGet.k (k := .inr (txt nm T')) (s13 _ _ f12.dict), q' _ _ s13 ?_⟩⟩))) fun H13 s13 => ?_)
              · rw [hval]
                have := allf_keys k fs lt3
                cases hl : lk T' (allf k fs lt3) with
                | none =>
                  have := lk_none.mp hl
                  rw [allf_keys] at this
                  rw [decide_eq_true this]; rfl
                | some e' =>
                  have h1 : T' ∈ fs.map (·.1) ++ lt3 := by
                    rw [← allf_keys]
                    exact List.mem_map.mpr ⟨_, lk_mem hl, rfl⟩
                  rw [decide_eq_false (fun z => z h1)]; rfl
              · have f13 := f12.to s13
                have kp13 := kp11.trans (keep_same (d := d) (D := D) (s12.trans s13))
                by_cases hin : T' ∈ fs.map (·.1) ++ lt3
                · rw [decide_eq_false (fun z => z hin)]
                  exact iteF (r_next ⟨lt3, ⟨_, _, rfl⟩, f13, kp13, hN3, hsub3, hcov lt3 (fun _ h => h) (List.mem_append.mp hin)⟩)
                · rw [decide_eq_true hin]
                  have hlen := hN3.len hS hfw hw mG
                  have hvn : valV (fsK nm (allf k fs lt3)) (.inr (txt nm T')) = none := by
                    rw [hval, lk_none.mpr (by rw [allf_keys]; exact hin)]; rfl
                  have hkl : (fsK nm (allf k fs lt3)).length < sizeLine := by
                    simp only [fsK, allf, List.length_map, List.length_append]
                    omega
                  have hr13 := tm_tr.same s13 hr12
                  refine iteT (r_seq (r_dput (r_var rfl (r_var rfl (r_call1 (r_var rfl ⟨T', ⟨r, rfl, hr13, wT', hT9⟩, fun y H14 s14 ey => ?_⟩))))))
                  have ey : y = V.str (txt nm T') := ey
                  subst ey
                  refine ⟨d, _, rfl, DPut.k (k := .inr (txt nm T')) (s14 _ _ f13.dict) hkl, ?_⟩
                  have f14 := f13.to s14
                  obtain ⟨ys14, hD14, r14⟩ := f14.lst
                  have e15 : putK (fsK nm (allf k fs lt3)) (.inr (txt nm T')) (.int ((k : Int) + 1)) = fsK nm (allf k fs (lt3 ++ [T'])) := by
                    rw [putK_new hvn, fsK_add]; rfl
                  rw [e15]
                  have s15 : Same H (upd H14 d (.dK (fsK nm (allf k fs (lt3 ++ [T']))))) := same_mut f14.same hd
                  have t15 : Tups H14 (upd H14 d (.dK (fsK nm (allf k fs (lt3 ++ [T']))))) := tups_dK f14.dict
                  have kp15 : Keep d D H10 (upd H14 d (.dK (fsK nm (allf k fs (lt3 ++ [T']))))) := keep_d (kp13.trans (keep_same s14))
                  have hd15 : upd H14 d (.dK (fsK nm (allf k fs (lt3 ++ [T'])))) d = some (.dK (fsK nm (allf k fs (lt3 ++ [T'])))) := upd_same
                  have hD15 : upd H14 d (.dK (fsK nm (allf k fs (lt3 ++ [T'])))) D = some (.lst ys14) := by rw [upd_ne hDd]; exact hD14
                  have hr15 := tm_tr _ _ _ _ t15 (tm_tr.same s14 hr13)
                  have r15 := r14.imp fun _ _ z => tm_tr _ _ _ _ t15 z
                  generalize upd H14 d (.dK (fsK nm (allf k fs (lt3 ++ [T'])))) = H15 at s15 t15 kp15 hd15 hD15 hr15 r15 ⊢
                  have yl := r15.len
                  refine r_append (p := D) rfl hD15 (by omega) (gv_var (R := fun H r => TrV nm H r T') rfl hr15) fun y H16 s16 ry => ?_
                  have hD16 := s16 _ _ hD15
                  refine ⟨lt3 ++ [T'], ⟨_, _, rfl⟩, ⟨same_mut (s15.trans s16) hDH, by rw [upd_ne (Ne.symm hDd)]; exact s16 _ _ hd15, ys14 ++ [y], upd_same, (r15.imp fun _ _ z => tm_tr _ _ _ _ ((Same.tups s16).trans (tups_lst hD16)) z).app (.cons (tm_tr _ _ _ _ (tups_lst hD16) ry) .nil)⟩, keep_D (kp15.trans (keep_same s16)), hN3.add hS hw.ok hUd ⟨S, R, P0, hmv⟩ hin, fun T hT => List.mem_append_left _ (hsub3 T hT), hcov _ (fun T hT => List.mem_append_left _ hT) (.inr (List.mem_append_right _ (List.mem_singleton.mpr rfl)))⟩
            · rintro σ H11 ⟨lt3, ⟨e, g, rfl⟩, f11, kp11, hN3, hsub3, hC3⟩
              have hzl := rL10.len
              rw [List.take_of_length_le (by omega)] at hC3
              refine ⟨lt3, ⟨_, _, _, _, rfl⟩, f11, kp10.trans kp11, hN3, fun T hT => hsub3 T (hsub2 T hT), fun S' hS' R' P' T hm => ?_⟩
              have tk : Ss.take (j + 1) = Ss.take j ++ [S] := by rw [List.take_add_one, hSj]; rfl
              rw [tk] at hS'
              rcases List.mem_append.mp hS' with z | z
              · exact (hC2 S' z R' P' T hm).mono hsub3
              · have e1 := List.mem_singleton.mp z
                subst e1
                have e2 : R' = R := Option.some.inj (hm.rest.symm.trans hR)
                subst e2
                exact hC3 P' ((hNd.mem _).mpr ⟨P', hm.put.sub, rfl⟩) hm.put.sub T hm
          · rintro σ H10 ⟨lt2, ⟨b, c, e, g, rfl⟩, f10, kp10, hN2, hsub2, hC2⟩
            have hml := rm.len
            rw [List.take_of_length_le (by omega)] at hC2
            refine ⟨lt2, ⟨_, _, _, _, _, rfl⟩, f10, (kp8.trans (keep_same s9)).trans kp10, hN2, fun W hW T hT => ?_⟩
            have tk : ts.take (i + 1) = ts.take i ++ [U] := by rw [List.take_add_one, hUi]; rfl
            rw [tk] at hW
            rcases List.mem_append.mp hW with z | z
            · exact (hC1 W z T hT).mono hsub2
            · have e1 := List.mem_singleton.mp z
              subst e1
              obtain ⟨S, R, P, hm⟩ := hT
              by_cases hSW : S = W
              · subst hSW
                have h1 := hm.rest
                have h2 : res (fun x => decide (x ∉ S.nm)) S = none := res_none.mpr (mt_false.mpr fun x hx => by simp [hx])
                rw [h2] at h1; cases h1
              · exact hC2 S ((hSs S).mpr ⟨hm.sub, hSW⟩) R P T hm
        · rintro σ H8 ⟨lt, ⟨a, b, c, e, g, rfl⟩, f8, kp8, hN, hC1⟩
          have hyl := rts7.len
          rw [List.take_of_length_le (by omega)] at hC1
          obtain ⟨hS', hts'⟩ := hS.next hN fun U hU T s => hC1 U ((hts U).mpr hU) T s
          obtain ⟨ys8, hD8, r8⟩ := f8.lst
          dsimp only
          refine r_asg (r_var rfl ?_)
          exact ⟨k + 1, allf k fs lt, lt, D, ys8, _, _, _, _, _, _, by omega, rfl, f8.same, f8.dict, hD8, r8, hS', hts'⟩
end
end Jw
end

section
set_option Elab.async false
set_option linter.all false
set_option maxRecDepth 100000
set_option maxHeartbeats 4000000
/-! The law. -/
namespace Jt
open Jt.Tr
section
variable {T G U W : Tr} {ms : List (List Nat × List Nat)} {n : Nat}
theorem Ch.reach (h : Ch T ms U) : Reach ms.length T U := by
  induction h with
  | nil => exact .nil
  | @cons S R P T U W ms m _ ih =>
    have := (Reach.one ⟨S, R, P, m⟩).trans ih
    rw [List.length_cons, Nat.add_comm]; exact this
theorem Ch.take (h : Ch T ms W) : ∀ i, ∃ U, Ch T (ms.take i) U ∧ Ch U (ms.drop i) W := by
  induction h with
  | nil => intro i; exact ⟨_, by simp; exact .nil, by simp; exact .nil⟩
  | cons m h ih =>
    intro i
    cases i with
    | zero => exact ⟨_, .nil, .cons m h⟩
    | succ i =>
      obtain ⟨U, h1, h2⟩ := ih i
      exact ⟨U, .cons m h1, h2⟩
theorem Ch.wf (h : Ch T ms U) (w : Wf n T) : Wf n U := ⟨h.reach.ok w.ok, fun x hx => w.lt x ((h.reach.nm x).mp hx)⟩
/-- the distance along a least way -/
theorem dist_along {d e i : Nat} (w : Wf n T) (hd : IsDist G T d) (hl : ms.length = d) (h1 : Ch T (ms.take i) U) (h2 : Ch U (ms.drop i) G) (hi : i ≤ ms.length) (he : IsDist G U e) : e + i = d := by
  have wU := h1.wf w
  have r1 := (h1.reach).back w.ok
  have r2 := (h2.reach).back wU.ok
  have l1 : (ms.take i).length = i := by rw [List.length_take]; omega
  have l2 : (ms.drop i).length = ms.length - i := List.length_drop
  rw [l1] at r1
  rw [l2] at r2
  have k1 := he.2 _ r2
  have k2 := hd.2 _ (he.1.trans r1)
  omega
end
end Jt
namespace Jw
open PySem PySem.Spec PyProof.Rows L2 Jt JH
theorem lst_oth {α : Type} {R : Hp → V → α → Prop} {d : Addr} {kvs : List (Key × V)} {H H' : Hp} {v : V} {as : List α} (h : LstV R H v as) (m : TM R) (hd : H d = some (.dK kvs)) (o : Oth d H H') : LstV R H' v as := by
  obtain ⟨p, xs, e, hp, r⟩ := h
  exact ⟨p, xs, e, o _ _ (fun z => by rw [z, hd] at hp; cases hp) hp, r.imp fun _ _ k => m _ _ _ _ (o.tups hd) k⟩
theorem Pen.lst {α : Type} {R : Hp → V → α → Prop} {d c : Addr} {k : Nat} {H H' : Hp} {v : V} {as : List α} (p : Pen d c k H) (h : LstV R H v as) (m : TM R) (o : Oth d H H') : LstV R H' v as := let ⟨_, _, _, hd, _⟩ := p.ex; lst_oth h m hd o
section
variable {P : Program} {w : World} {K : PySem.W.Frag} {mg : Str → Option Value} {base : Heap} {f : Addr} {fd : FuncData}
def spLaw (K : PySem.W.Frag) : Sp := fun vs H Q _ => ∃ (a : Addr) (ns : List Int), vs = [.ref a] ∧ SqL K H a (ns.map V.int) ∧ ∀ H', Q (.bl true) H'
theorem gv_eqMs {nm : Nat → Str} {ta : TE} {σ : L2.St} {H : Hp} (ha : Gv ta σ H fun H1 v => LstV (MvV nm) H1 v []) : Gv (tOp (rEqD K) ta (tLst tNil)) σ H fun _ r => r = .bl true :=
  gv_imp (gv_eqD (da := .list []) (db := .list []) ha (fun H4 s4 => gv_emptyL (α := Nat) (RA := NmV nm)) (fun x y H4 H5 s4 ⟨p, ys, ey, hy, ry⟩ s5 ⟨p2, ys2, ey2, hy2, ry2⟩ => ⟨by rw [ey]; cases ry; exact .lst (SqL.of (s5 _ _ hy)) .nil, by rw [ey2]; cases ry2; exact .lst (SqL.of hy2) .nil⟩) sh_nilL sh_nilL) fun r H3 _ e => by
    rw [e]; simp [PyData.eqv, PyData.eqvAll]
theorem r_dget2 {td ty : TE} {σ : L2.St} {H : Hp} {Q : VK} (h : td σ H fun x H1 => ty σ H1 fun y H2 => ∃ a v, x = .ref a ∧ DGet H2 a y (some v) ∧ Q v H2) : tDGet td ty σ H Q := h
theorem sc_law : FnScope ["_law_script", "_law_pen_here", "_law_one", "_law_other", "_law_far_off", "_law_forest", "_law_way_here", "_law_many", "_law_some", "_law_k", "_law_drawn", "_law_more"] ["_law_script"] (defScope s_law) := ⟨rfl, rfl, rfl, by decide +kernel, rfl, by decide +kernel, by decide +kernel⟩
theorem ok_law (F : FnD K "law" s_law f fd) (B : Bi mg) (c__law_pen : Cal P w K mg base 1 "_law_pen" ["_law_script"] (spPen K)) (c__law_pair : Cal P w K mg base 13 "_law_pair" ["_law_pen_here", "_law_many"] spPair) (c__law_draw : Cal P w K mg base 1 "_law_draw" ["_law_pen_here", "_law_many"] spDraw) (c__law_far : Cal P w K mg base 13 "_law_far" ["_law_one"] (AllNm spFar))
    (c_fewest_moves : Cal P w K mg base 33 "fewest_moves" ["one", "other"] (AllNm spFewestMoves)) (c__law_text : Cal P w K mg base 10 "_law_text" ["_law_tree_here"] (AllNm fun nm n => spText nm n 9)) (c_led : Cal P w K mg base 25 "led" ["tree", "moves"] (AllNm spLed)) (c__law_forests : Cal P w K mg base 13 "_law_forests" ["_law_one", "_law_other"] (AllNm spForests))
    (c_moves_by : Cal P w K mg base 29 "moves_by" ["one", "other", "forest"] (AllNm spMovesBy)) (c__law_below : Cal P w K mg base 1 "_law_below" ["_law_tree_here"] (AllNm spNamesIn)) : FnOk P w K mg base CX0 34 f fd ["_law_script"] (spLaw K) := by
  refine F.ok sc_law (fun vs H Q E h => ?_) (fun cdv A outer s H vs Q E hr h => ?_)
  · obtain ⟨_, _, rfl, _⟩ := h; rfl
  · obtain ⟨a, ns, rfl, ha, q⟩ := h
    have hu := hr.units
    have hu1 : A.units + 4 < cLine := by have := hr.un; have : (A.deeper (envOfC (Str.ofString "law") (defScope s_law) s.heap.objs.size f cdv)).units = A.units + 3 := rfl; omega
    refine ⟨_, PSs.nox (pss_cons (ps_set (i := 1) sc_law.nd rfl (by first | exact Or.inl rfl | exact Or.inr rfl) (pe_cal c__law_pen (hr.mono (by first | decide | omega)) (pa_cons (pv 0) pa_nil)))
      (pss_cons (ps_asg (pe_cal c__law_pair (hr.mono (by first | decide | omega)) (pa_cons (pv 1) (pa_cons (pe_op op_add (pe_int) (pe_cal c__law_draw (hr.mono (by first | decide | omega)) (pa_cons (pv 1) (pa_cons (pe_int) pa_nil)))) pa_nil))) (pg_tup rfl (pgs_cons (pg_name (i := 2) sc_law.nd rfl (by first | exact Or.inl rfl | exact Or.inr rfl)) (pgs_cons (pg_name (i := 3) sc_law.nd rfl (by first | exact Or.inl rfl | exact Or.inr rfl)) pgs_nil))))
      (pss_cons (ps_set (i := 4) sc_law.nd rfl (by first | exact Or.inl rfl | exact Or.inr rfl) (pe_cal c__law_far (hr.mono (by first | decide | omega)) (pa_cons (pv 3) pa_nil)))
      (pss_cons (ps_asg (pe_cal c_fewest_moves (hr.mono (by first | decide | omega)) (pa_cons (pv 2) (pa_cons (pv 3) pa_nil))) (pg_tup rfl (pgs_cons (pg_name (i := 5) sc_law.nd rfl (by first | exact Or.inl rfl | exact Or.inr rfl)) (pgs_cons (pg_name (i := 6) sc_law.nd rfl (by first | exact Or.inl rfl | exact Or.inr rfl)) pgs_nil))))
      (pss_cons (ps_if ((pw_or (pt_cmpR op_ne (pe_callB (lenQ K) (by rfl) B.len boot_len (pa_cons (pv 6) pa_nil)) (pe_dget hu1 (pv 4) (pe_cal c__law_text (hr.mono (by first | decide | omega)) (pa_cons (pv 2) pa_nil)) (fun _ _ => rfl)) (by rfl)) (pw_or1 (pt_cmpR op_ne (pe_callB (lenQ K) (by rfl) B.len boot_len (pa_cons (pe_ix (ixT K) (pv 5) (pe_int) (fun _ _ => rfl)) pa_nil)) (pe_callB (lenQ K) (by rfl) B.len boot_len (pa_cons (pv 6) pa_nil)) (by rfl)))).pt) (pss_one (ps_ret (pe_bl))) pss_nil)
      (pss_cons (ps_for PassesOwn.never rfl (pi_range1 (by rfl) B.range (pa_cons (pe_op op_add (pe_callB (lenQ K) (by rfl) B.len boot_len (pa_cons (pv 6) pa_nil)) (pe_int)) pa_nil)) (pg_name (i := 7) sc_law.nd rfl (by first | exact Or.inl rfl | exact Or.inr rfl)) (pss_one (ps_if (pt_cmpR op_ne (pe_dget hu1 (pv 4) (pe_cal c__law_text (hr.mono (by first | decide | omega)) (pa_cons (pe_cal c_led (hr.mono (by first | decide | omega)) (pa_cons (pv 2) (pa_cons (pe_slice (slL K) (pv 6) po_none (po_some (pv 7))) pa_nil))) pa_nil)) (fun _ _ => rfl)) (pe_op op_sub (pe_callB (lenQ K) (by rfl) B.len boot_len (pa_cons (pv 6) pa_nil)) (pv 7)) (by rfl)) (pss_one (ps_ret (pe_bl))) pss_nil)))
      (pss_cons (ps_set (i := 8) sc_law.nd rfl (by first | exact Or.inl rfl | exact Or.inr rfl) (pe_cal c__law_forests (hr.mono (by first | decide | omega)) (pa_cons (pv 2) (pa_cons (pv 3) pa_nil))))
      (pss_cons (ps_for PassesOwn.never rfl (pi_range1 (by rfl) B.range (pa_cons (pe_int) pa_nil)) (pg_name (i := 9) sc_law.nd rfl (by first | exact Or.inl rfl | exact Or.inr rfl)) (pss_cons (ps_set (i := 10) sc_law.nd rfl (by first | exact Or.inl rfl | exact Or.inr rfl) (pe_ix (ixL K) (pv 8) (pe_cal c__law_draw (hr.mono (by first | decide | omega)) (pa_cons (pv 1) (pa_cons (pe_callB (lenQ K) (by rfl) B.len boot_len (pa_cons (pv 8) pa_nil)) pa_nil))) (fun _ _ => rfl)))
      (pss_cons (ps_set (i := 11) sc_law.nd rfl (by first | exact Or.inl rfl | exact Or.inr rfl) (pe_cal c_moves_by (hr.mono (by first | decide | omega)) (pa_cons (pv 2) (pa_cons (pv 3) (pa_cons (pv 10) pa_nil)))))
      (pss_one (ps_if ((pw_or (pt_cmpR op_lt (pe_callB (lenQ K) (by rfl) B.len boot_len (pa_cons (pv 11) pa_nil)) (pe_callB (lenQ K) (by rfl) B.len boot_len (pa_cons (pv 6) pa_nil)) (by rfl)) (pw_or1 (pt_cmpR (neD K hu) (pe_cal c_led (hr.mono (by first | decide | omega)) (pa_cons (pv 2) (pa_cons (pv 11) pa_nil))) (pv 3) (by rfl)))).pt) (pss_one (ps_ret (pe_bl))) pss_nil)))))
      (pss_one (ps_ret (pe_and (pe_cmpR (eqD K hu) (pe_ix (ixT K) (pe_cal c_fewest_moves (hr.mono (by first | decide | omega)) (pa_cons (pv 2) (pa_cons (pv 2) pa_nil))) (pe_int) (fun _ _ => rfl)) (pe_lst pa_nil) (by rfl)) (pe_one (pe_cmpR (eqD K hu) (pe_cal c_moves_by (hr.mono (by first | decide | omega)) (pa_cons (pv 3) (pa_cons (pv 3) (pa_cons (pe_tup (pa_cons (pe_cal c__law_below (hr.mono (by first | decide | omega)) (pa_cons (pv 3) pa_nil)) (pa_cons (pe_tup pa_nil) pa_nil))) pa_nil)))) (pe_lst pa_nil) (by rfl)))))))))))))), ?_⟩
    have hsl : (100000 : Nat) ≤ sizeLine := by decide
    refine r_seq (r_asg (r_call1 (r_var rfl ⟨ns, ⟨a, rfl, ha⟩, fun pv H1 s1 ⟨d, c, ed, hdH, hcH, p1⟩ => ?_⟩)))
    subst ed
    refine r_seq (r_asgP (r_call2 (r_var rfl (r_op (r_c (r_call2 (r_var rfl (r_c ⟨d, c, 0, 4, rfl, by decide, by decide, by omega, p1, fun j H2 hj o2 p2 => ⟨_, _, rfl, rfl, d, c, 1, 2 + j, ?_, by omega, by omega, by omega, p2, fun r H3 nm T G o3 p3 N hTG wT wG mT mG => ?_⟩⟩))))))))
    · have : (2 : Int) + (j : Nat) = ((2 + j : Nat) : Int) := by omega
      show [V.ref d, V.int ((2 : Int) + (j : Nat))] = _
      rw [this]
    obtain ⟨pp, x, y, rfl, hpp, hT, hG⟩ := hTG
    simp only at hT hG
    have hfw := N.few
    generalize hn : 2 + j = n at N wT wG mT mG hfw
    refine ⟨pp, [x, y], rfl, SqT.of hpp, rfl, x, _, rfl, y, _, rfl, rfl, ?_⟩
    have same : ∀ z, z ∈ T.nm ↔ z ∈ G.nm := fun z => by rw [mT, mG]
    have sz9 : ∀ {t : Tr}, Wf n t → t.sz ≤ 9 := fun w => w.sz hfw
    have p3d := p3
    refine r_seq (r_asg (r_call1 (r_var rfl ⟨⟨(nm, n), N⟩, G, ⟨y, rfl, hG, wG, mG⟩, fun fv H4 s4 ⟨df, fs, ef, hdf0, hdf, hfar⟩ => ?_⟩)))
    subst ef
    dsimp only at hdf hfar ⊢
    have hdfd : df ≠ d := fun e => by obtain ⟨_, _, _, e1, _⟩ := p3.ex; rw [e, e1] at hdf0; cases hdf0
    have p4 := p3.same s4
    have hT4 := tm_tr.same s4 hT
    have hG4 := tm_tr.same s4 hG
    refine r_seq (r_asgP (r_call2 (r_var rfl (r_var rfl ⟨⟨(nm, n), N⟩, (T, G), ⟨x, y, rfl, hT4, hG4, wT, wG, same⟩, fun r H5 s5 ⟨m, top, o, ms, pf, u, l, er, hpf, hfo, hFew, hol, hms, hch, hml⟩ => ⟨pf, [u, l], er, SqT.of hpf, rfl, u, _, rfl, l, _, rfl, rfl, ?_⟩⟩))))
    subst er
    dsimp only at hpf hfo hFew hol hms hch hml ⊢
    obtain ⟨e0, he0, hv0⟩ := hfar T wT mT
    have em : e0 = m := dist_fewest wT.ok wG.ok he0 hFew
    have hlm : ms.length = m := by
      have := he0.2 _ (hch.reach.back wT.ok)
      omega
    have hm9 : ms.length ≤ 5 := by
      obtain ⟨d', hd', hle⟩ := dist_ex wT.ok wG.ok same
      have := hd'.uniq he0
      have := wT.len
      omega
    have hdf5 := s5 _ _ hdf
    have hT5 := tm_tr.same s5 hT4
    have hG5 := tm_tr.same s5 hG4
    have p5 := p4.same s5
    have hmsl := hms.l
    have getd : ∀ {H6 : Hp} {U : Tr} {e : Nat}, H6 df = some (.dK (fsK nm fs)) → valV (fsK nm fs) (.inr (txt nm U)) = some (.int (e : Nat)) → DGet H6 df (.str (txt nm U)) (some (.int (e : Nat))) := fun h hv => by rw [← hv]; exact DGet.k (k := .inr (txt nm _)) h
    -- as far as the fewest
    refine r_seq (r_if (gt_use (b := false) (gt_or (b := false) (c := false) (gt_test fun Q' q' => r_op (gv_use (gv_len (n := ms.length) (gv_var rfl (hmsl.lens (K := K)))) fun z H6 s6 ez => r_dget2 (r_var rfl (r_call1 (r_var rfl ⟨⟨(nm, n), N⟩, T, ⟨x, rfl, tm_tr.same s6 hT5, wT, sz9 wT⟩, fun tv H7 s7 et => ?_⟩))))) fun H6 s6 => gt_test fun Q' q' => r_op (gv_use (gv_len (n := o.length) (fun Q2 q2 => ?_)) fun z H7 s7 ez => gv_use (gv_len (n := ms.length) (gv_var rfl ((hmsl.same tm_mv (s6.trans s7)).lens (K := K)))) fun z2 H8 s8 ez2 => ⟨by rw [ez, ez2]; rfl, q' _ _ (s7.trans s8) ?_⟩)) fun H6 s6 => iteF (r_next ?_)))
    · have et : tv = V.str (txt nm T) := et
      subst et
      refine ⟨df, _, rfl, getd ((s6.trans s7) _ _ hdf5) hv0, by rw [ez]; rfl, q' _ _ (s6.trans s7) ?_⟩
      rw [ez, decide_eq_true (show V.int (ms.length : Nat) = V.int (e0 : Nat) by rw [hlm, em])]; rfl
    · obtain ⟨po, p1', p2', epo, hpo, _, hoo⟩ := tm_fo.same s6 hfo
      simp only at hoo
      refine r_op (r_var rfl (r_c ⟨po, [p1', p2'], 1, p2', epo, rfl, SqT.of hpo, atI_nat (j := 1) rfl, q2 _ _ (Same.refl _) ?_⟩))
      exact (TupV.lens hoo)
    · rw [ez, ez2, decide_eq_true (show V.int (o.length : Nat) = V.int (ms.length : Nat) by rw [hlm, hol])]; rfl
    · have hdf6 := s6 _ _ hdf5
      have hT6 := tm_tr.same s6 hT5
      have hG6 := tm_tr.same s6 hG5
      have hms6 := hmsl.same tm_mv s6
      have p6 := p5.same s6
      -- each step of the way
      refine r_seq (r_rng1 (m := ms.length + 1) (fun Q' q' => r_op (gv_use (gv_len (n := ms.length) (gv_var rfl (hms6.lens (K := K)))) fun z H7 s7 ez => r_c ⟨_, _, ez, rfl, q' _ _ s7 rfl⟩)) (by omega) fun H7 s7 => for_it (walk_range (lo := 0) (n := ms.length + 1)) (fun i σ H' => Same H6 H' ∧ ∃ z, σ = [some (.ref a), some (.ref d), some x, some y, some (.ref df), some u, some l, z, none, none, none, none]) ⟨s7, _, rfl⟩ (fun _ _ _ _ _ => trivial) ?_ ?_)
      · rintro i zi σ H8' H8 hi ⟨s8, z, rfl⟩ ⟨rfl, rfl⟩
        obtain ⟨U, h1, h2⟩ := hch.take i
        have wU := h1.wf wT
        have mU : ∀ z, z ∈ U.nm ↔ z < n := fun z => by rw [h1.reach.nm, mT]
        obtain ⟨e, he, hv⟩ := hfar U wU mU
        have hei := dist_along wT he0 (by omega) h1 h2 (by omega) he
        have e0i : (0 : Int) + (i : Nat) = ((i : Nat) : Int) := by omega
        refine r_if (gt_use (b := false) (gt_test fun Q' q' => r_op (r_dget2 (r_var rfl (r_call1 (gv_use (R := fun H r => TrV nm H r U) (fun Q2 q2 => r_call2 (r_var rfl (gv_use (gv_imp (gv_takeL (k := i) (tm_mv (nm := nm)) (gv_var (R := fun H r => LstV (MvV nm) H r ms) rfl (hms6.same tm_mv s8)) fun H10 s10 => gv_var (v := .int ((0 : Int) + (i : Nat))) rfl (by rw [e0i])) (R' := fun H r => LstV (MvV nm) H r (ms.take i)) fun _ _ _ z => z.l) fun y2 H9 s9 ry => ⟨⟨(nm, n), N⟩, (T, ms.take i, U), ⟨x, y2, rfl, tm_tr.same (s8.trans s9) hT6, ry, wT, h1, by show (ms.take i).length ≤ 100; rw [List.length_take]; omega⟩, fun r H11 s11 z => q2 r H11 (s9.trans s11) z⟩))) fun uv H9 s9 huv => ⟨⟨(nm, n), N⟩, U, ⟨uv, rfl, huv, wU, sz9 wU⟩, fun tv H10 s10 et => ?_⟩))))) fun H9 s9 => iteF (r_next ⟨s8.trans s9, _, rfl⟩))
        have et : tv = V.str (txt nm U) := et
        subst et
        have s9_10 := s9.trans s10
        refine ⟨df, _, rfl, getd ((s8.trans s9_10) _ _ hdf6) hv, r_op (gv_use (gv_len (n := ms.length) (gv_var rfl ((hms6.same tm_mv (s8.trans s9_10)).lens (K := K)))) fun z2 H11 s11 ez => r_var rfl ⟨_, _, ez, rfl, rfl, q' _ _ (s9_10.trans s11) ?_⟩)⟩
        have : decide (V.int (e : Nat) = V.int ((ms.length : Nat) - ((0 : Int) + (i : Nat)))) = true := decide_eq_true (by congr 1; omega)
        rw [this]; rfl
      · rintro σ H8 ⟨s8, z, rfl⟩
        have hT8 := tm_tr.same s8 hT6
        have hG8 := tm_tr.same s8 hG6
        have hms8 := hms6.same tm_mv s8
        have p8 := p6.same s8
        refine r_seq (r_asg (r_call2 (r_var rfl (r_var rfl ⟨⟨(nm, n), N⟩, (T, G), ⟨x, y, rfl, hT8, hG8, wT, wG, same⟩, fun sv H9 s9 ⟨L, hL, hLne, hLlen, hLall⟩ => ?_⟩))))
        dsimp only at hLall ⊢
        have hL9 := hL.l
        have hT9 := tm_tr.same s9 hT8
        have hG9 := tm_tr.same s9 hG8
        have hms9 := hms8.same tm_mv s9
        have p9 := p8.same s9
        refine r_seq (r_rng1 (m := 6) (gv_c rfl) (by omega) fun H10 s10 => for_it (walk_range (lo := 0) (n := 6)) (fun i σ H' => Oth d H10 H' ∧ Pen d c (201 + i) H' ∧ ∃ z0 z1 z2 z3, σ = [some (.ref a), some (.ref d), some x, some y, some (.ref df), some u, some l, z0, some sv, z1, z2, z3]) ⟨Oth.refl _ _, p9.same s10, _, _, _, _, rfl⟩ (fun _ _ _ _ _ => trivial) ?_ ?_)
        · rintro i zi σ H11' H11 hi ⟨o11, p11, z0, z1, z2, z3, rfl⟩ ⟨rfl, rfl⟩
          have p10 := p9.same s10
          have t11 := p10.tups o11
          have hT11 := tm_tr _ _ _ _ t11 (tm_tr.same s10 hT9)
          have hG11 := tm_tr _ _ _ _ t11 (tm_tr.same s10 hG9)
          have hL11 := p10.lst (hL9.same tm_fo s10) tm_fo o11
          have hms11 := p10.lst (hms9.same tm_mv s10) tm_mv o11
          refine r_seq (r_asg (r_op (r_var rfl (r_call2 (r_var rfl (gv_use (gv_len (n := L.length) (gv_var rfl (hL11.lens (K := K)))) fun z H12 s12 ez => ⟨d, c, 201 + i, (L.length : Nat), by rw [ez], by have := List.length_pos_iff.mpr hLne; omega, by omega, by omega, p11.same s12, fun j3 H13 hj3 o13 p13 => ?_⟩))))))
          have o11_13 : Oth d H11 H13 := (oth_same s12).trans o13
          have t11_13 := p11.tups o11_13
          obtain ⟨pL, xs, esv, hpL, rL⟩ := p11.lst hL11 tm_fo o11_13
          subst esv
          have hxl := rL.len
          have hj4 : j3 < xs.length := by omega
          obtain ⟨st, hst, rst⟩ := rL.get (List.getElem?_eq_getElem hj4)
          obtain ⟨hFo, hPk⟩ := hLall st (List.mem_of_getElem? hst)
          refine ⟨pL, xs, j3, xs[j3]'hj4, rfl, rfl, SqL.of hpL, atI_nat (List.getElem?_eq_getElem hj4), ?_⟩
          have hT13 := tm_tr _ _ _ _ t11_13 hT11
          have hG13 := tm_tr _ _ _ _ t11_13 hG11
          have hms13 := p11.lst hms11 tm_mv o11_13
          refine r_seq (r_asg (r_call3 (r_var rfl (r_var rfl (r_var rfl ⟨⟨(nm, n), N⟩, (T, G, st.1, st.2), ⟨x, y, _, rfl, hT13, hG13, rst, wT, wG, hFo, hPk⟩, fun r H14 s14 ⟨ms2, hm2, hch2, hml2⟩ => ?_⟩)))))
          dsimp only at hch2 hml2 ⊢
          have hge : ms.length ≤ ms2.length := by
            have := he0.2 _ (hch2.reach.back wT.ok)
            omega
          have hm25 : ms2.length ≤ 100 := by have := hPk.ol; omega
          have hml2v := hm2.l
          refine r_if (gt_use (b := false) (gt_or (b := false) (c := false) (gt_test fun Q' q' => r_op (gv_use (gv_len (n := ms2.length) (gv_var rfl (hml2v.lens (K := K)))) fun z5 H15 s15 e5 => gv_use (gv_len (n := ms.length) (gv_var rfl ((hms13.same tm_mv (s14.trans s15)).lens (K := K)))) fun z6 H16 s16 e6 => ⟨_, _, e5, e6, q' _ _ (s15.trans s16) (congrArg V.bl (decide_eq_false (by omega)))⟩)) fun H15 s15 => gt_test (gv_imp (gv_neD (da := dT nm G) (db := dT nm G) (Ra := fun H r => TrV nm H r G) (Rb := fun H r => TrV nm H r G) (fun Q2 q2 => r_call2 (r_var rfl (r_var rfl ⟨⟨(nm, n), N⟩, (T, ms2, G), ⟨x, r, rfl, tm_tr.same (s14.trans s15) hT13, hml2v.same tm_mv s15, wT, hch2, hm25⟩, fun r H16 s16 z => q2 r H16 s16 z⟩))) (fun H16 s16 => gv_var rfl (tm_tr.same ((s14.trans s15).trans s16) hG13)) (fun x y H3 H4 s3 rx s4 ry => ⟨dp_tr (tm_tr.same s4 rx), dp_tr ry⟩) (sh_dT N wG.lt (Nat.le_trans (sz9 wG) (by decide))) (sh_dT N wG.lt (Nat.le_trans (sz9 wG) (by decide)))) fun r H16 _ e => ?_)) fun H15 s15 => iteF (r_next ⟨o11.trans (o11_13.trans (oth_same (s14.trans s15))), ?_, _, _, _, _, rfl⟩))
          · rw [e, (eqv_dT N wG.lt wG.lt).mpr rfl]; rfl
          · have := (p13.same s14).same s15
            rw [show 201 + (i + 1) = 201 + i + 1 by omega]; exact this
        · rintro σ H11 ⟨o11, p11, z0, z1, z2, z3, rfl⟩
          have p10 := p9.same s10
          have t11 := p10.tups o11
          have hT11 := tm_tr _ _ _ _ t11 (tm_tr.same s10 hT9)
          have hG11 := tm_tr _ _ _ _ t11 (tm_tr.same s10 hG9)
          have hlG : ∀ z ∈ nmS G, z < n := fun z hz => wG.lt z (mem_nmS.mp hz)
          have hPG : PartsOk nm n (nmS G) (nmS G) [] := ⟨srt_nmS G, fun l hl => (by cases hl), fun l hl z hz => (by rw [List.mem_singleton.mp hl] at hz; exact hlG z hz), .nil, (by simpa using srt_nodup (srt_nmS G)), fun z => (by simp), srt_nmS G, by simp⟩
          refine r_ret (gv_use (gv_and (b := true) (c := true) (gv_eqMs (nm := nm) fun Q2 q2 => r_op (r_call2 (r_var rfl (r_var rfl ⟨⟨(nm, n), N⟩, (T, T), ⟨x, x, rfl, hT11, hT11, wT, wT, fun _ => Iff.rfl⟩, fun r H12 s12 ⟨m', top', o', ms', pf', u', l', er, hpf', _, hFew', _, hms', _, hml'⟩ => r_c ⟨pf', [u', l'], 1, l', er, rfl, SqT.of hpf', atI_nat (j := 1) rfl, q2 _ _ s12 ?_⟩⟩)))) fun H12 s12 => gv_eqMs (nm := nm) fun Q2 q2 => r_call3 (r_var rfl (r_var rfl (gv_use (gv_pair (a := nmS G) (b := ([] : List (List Nat))) (tm_lot (nm := nm)) (tm_tup (tm_lot (nm := nm))) (fun Q3 q3 => r_call1 (r_var rfl ⟨⟨(nm, n), N⟩, G, ⟨y, rfl, tm_tr.same s12 hG11, wG⟩, fun r H13 s13 z => q3 r H13 s13 z⟩)) fun H13 s13 => gv_unit (α := List Nat) (RA := LotV nm)) fun w1 H13 s13 hw1 => ⟨⟨(nm, n), N⟩, (G, G, nmS G, []), ⟨y, y, w1, rfl, tm_tr.same (s12.trans s13) hG11, tm_tr.same (s12.trans s13) hG11, hw1, wG, wG, fo_self fun z => mem_nmS.symm, hPG⟩, fun r H14 s14 ⟨ms', h1, h2, h3⟩ => q2 _ _ (s13.trans s14) ?_⟩)))) fun r H12 s12 e => by rw [e]; exact q _)
          · have h0 := hFew'.2 (nmS T) [] (fo_self fun z => mem_nmS.symm)
            have : ms' = [] := List.eq_nil_of_length_eq_zero (by simp only [List.length_nil] at h0; omega)
            rw [this] at hms'
            exact hms'.l
          · have : ms' = [] := List.eq_nil_of_length_eq_zero (by simpa using h3)
            rw [this] at h1
            exact h1.l
end
end Jw
end

section
set_option Elab.async false
set_option linter.all false
set_option maxRecDepth 100000
set_option maxHeartbeats 0
/-! The promises joined: printed by gen_asm.py. -/
namespace Jw
open PySem PySem.Spec PyProof.Rows L2 Jt JH
theorem facts {P : Program} {w : World} {K : PySem.W.Frag} {h : Heap} {mg : Str → Option Value} {f : Addr} (X : K.In h) (G : h.Ns mainGlobals mg) (hfa : mg ("law" : Str) = some (.ref f)) (c : He.SaysD fa fn K) :
    ∃ fd : FuncData, (∀ (s : Shared) (v : Value), BindsTo s fd ⟨[v], []⟩ [("_law_script", v)]) ∧ ∀ base : Heap, K.In base → base.Ns mainGlobals mg → FnOk P w K mg base CX0 34 f fd ["_law_script"] (spLaw K) := by
  obtain ⟨fd_has_all, F_has_all⟩ := c.def_ 11 (d := d_has_all) rfl
  replace F_has_all : FnD K "has_all" s_has_all (He.fAd K d_has_all.at_) fd_has_all := F_has_all
  obtain ⟨fd_is_name, F_is_name⟩ := c.def_ 0 (d := d_is_name) rfl
  replace F_is_name : FnD K "is_name" s_is_name (He.fAd K d_is_name.at_) fd_is_name := F_is_name
  obtain ⟨fd_is_lot, F_is_lot⟩ := c.def_ 1 (d := d_is_lot) rfl
  replace F_is_lot : FnD K "is_lot" s_is_lot (He.fAd K d_is_lot.at_) fd_is_lot := F_is_lot
  obtain ⟨fd_first_name, F_first_name⟩ := c.def_ 2 (d := d_first_name) rfl
  replace F_first_name : FnD K "first_name" s_first_name (He.fAd K d_first_name.at_) fd_first_name := F_first_name
  obtain ⟨fd_standing, F_standing⟩ := c.def_ 3 (d := d_standing) rfl
  replace F_standing : FnD K "standing" s_standing (He.fAd K d_standing.at_) fd_standing := F_standing
  obtain ⟨fd_fork_of, F_fork_of⟩ := c.def_ 4 (d := d_fork_of) rfl
  replace F_fork_of : FnD K "fork_of" s_fork_of (He.fAd K d_fork_of.at_) fd_fork_of := F_fork_of
  obtain ⟨fd_names_in, F_names_in⟩ := c.def_ 5 (d := d_names_in) rfl
  replace F_names_in : FnD K "names_in" s_names_in (He.fAd K d_names_in.at_) fd_names_in := F_names_in
  obtain ⟨fd_lots_below, F_lots_below⟩ := c.def_ 6 (d := d_lots_below) rfl
  replace F_lots_below : FnD K "lots_below" s_lots_below (He.fAd K d_lots_below.at_) fd_lots_below := F_lots_below
  obtain ⟨fd_lots_of, F_lots_of⟩ := c.def_ 7 (d := d_lots_of) rfl
  replace F_lots_of : FnD K "lots_of" s_lots_of (He.fAd K d_lots_of.at_) fd_lots_of := F_lots_of
  obtain ⟨fd_part_to, F_part_to⟩ := c.def_ 8 (d := d_part_to) rfl
  replace F_part_to : FnD K "part_to" s_part_to (He.fAd K d_part_to.at_) fd_part_to := F_part_to
  obtain ⟨fd_tree_to, F_tree_to⟩ := c.def_ 9 (d := d_tree_to) rfl
  replace F_tree_to : FnD K "tree_to" s_tree_to (He.fAd K d_tree_to.at_) fd_tree_to := F_tree_to
  obtain ⟨fd_nodes_of, F_nodes_of⟩ := c.def_ 10 (d := d_nodes_of) rfl
  replace F_nodes_of : FnD K "nodes_of" s_nodes_of (He.fAd K d_nodes_of.at_) fd_nodes_of := F_nodes_of
  obtain ⟨fd_head_of, F_head_of⟩ := c.def_ 12 (d := d_head_of) rfl
  replace F_head_of : FnD K "head_of" s_head_of (He.fAd K d_head_of.at_) fd_head_of := F_head_of
  obtain ⟨fd_way_of, F_way_of⟩ := c.def_ 13 (d := d_way_of) rfl
  replace F_way_of : FnKD K "way_of" s_way_of [("is_top", .bl false)] (He.fAd K d_way_of.at_) fd_way_of := F_way_of
  obtain ⟨fd_are_apart, F_are_apart⟩ := c.def_ 14 (d := d_are_apart) rfl
  replace F_are_apart : FnD K "are_apart" s_are_apart (He.fAd K d_are_apart.at_) fd_are_apart := F_are_apart
  obtain ⟨fd_share, F_share⟩ := c.def_ 16 (d := d_share) rfl
  replace F_share : FnD K "share" s_share (He.fAd K d_share.at_) fd_share := F_share
  obtain ⟨fd_are_parts, F_are_parts⟩ := c.def_ 15 (d := d_are_parts) rfl
  replace F_are_parts : FnD K "are_parts" s_are_parts (He.fAd K d_are_parts.at_) fd_are_parts := F_are_parts
  obtain ⟨fd_lets_forest, F_lets_forest⟩ := c.def_ 17 (d := d_lets_forest) rfl
  replace F_lets_forest : FnKD K "lets_forest" s_lets_forest [("ringless", .bl false)] (He.fAd K d_lets_forest.at_) fd_lets_forest := F_lets_forest
  obtain ⟨fd_longer_ones, F_longer_ones⟩ := c.def_ 18 (d := d_longer_ones) rfl
  replace F_longer_ones : FnD K "longer_ones" s_longer_ones (He.fAd K d_longer_ones.at_) fd_longer_ones := F_longer_ones
  obtain ⟨fd_looked_for, F_looked_for⟩ := c.def_ 19 (d := d_looked_for) rfl
  replace F_looked_for : FnKD K "looked_for" s_looked_for [] (He.fAd K d_looked_for.at_) fd_looked_for := F_looked_for
  obtain ⟨fd_fewest_forest, F_fewest_forest⟩ := c.def_ 20 (d := d_fewest_forest) rfl
  replace F_fewest_forest : FnKD K "fewest_forest" s_fewest_forest [("ringless", .bl false)] (He.fAd K d_fewest_forest.at_) fd_fewest_forest := F_fewest_forest
  obtain ⟨fd_names_left, F_names_left⟩ := c.def_ 21 (d := d_names_left) rfl
  replace F_names_left : FnD K "names_left" s_names_left (He.fAd K d_names_left.at_) fd_names_left := F_names_left
  obtain ⟨fd_put_beside, F_put_beside⟩ := c.def_ 23 (d := d_put_beside) rfl
  replace F_put_beside : FnD K "put_beside" s_put_beside (He.fAd K d_put_beside.at_) fd_put_beside := F_put_beside
  obtain ⟨fd_is_move, F_is_move⟩ := c.def_ 22 (d := d_is_move) rfl
  replace F_is_move : FnD K "is_move" s_is_move (He.fAd K d_is_move.at_) fd_is_move := F_is_move
  obtain ⟨fd_does, F_does⟩ := c.def_ 24 (d := d_does) rfl
  replace F_does : FnD K "does" s_does (He.fAd K d_does.at_) fd_does := F_does
  obtain ⟨fd_led, F_led⟩ := c.def_ 25 (d := d_led) rfl
  replace F_led : FnD K "led" s_led (He.fAd K d_led.at_) fd_led := F_led
  obtain ⟨fd_moved, F_moved⟩ := c.def_ 26 (d := d_moved) rfl
  replace F_moved : FnD K "moved" s_moved (He.fAd K d_moved.at_) fd_moved := F_moved
  obtain ⟨fd_free_lot, F_free_lot⟩ := c.def_ 27 (d := d_free_lot) rfl
  replace F_free_lot : FnD K "free_lot" s_free_lot (He.fAd K d_free_lot.at_) fd_free_lot := F_free_lot
  obtain ⟨fd_one_lot, F_one_lot⟩ := c.def_ 30 (d := d_one_lot) rfl
  replace F_one_lot : FnD K "one_lot" s_one_lot (He.fAd K d_one_lot.at_) fd_one_lot := F_one_lot
  obtain ⟨fd_nodes_above, F_nodes_above⟩ := c.def_ 28 (d := d_nodes_above) rfl
  replace F_nodes_above : FnD K "nodes_above" s_nodes_above (He.fAd K d_nodes_above.at_) fd_nodes_above := F_nodes_above
  obtain ⟨fd_met_above, F_met_above⟩ := c.def_ 29 (d := d_met_above) rfl
  replace F_met_above : FnD K "met_above" s_met_above (He.fAd K d_met_above.at_) fd_met_above := F_met_above
  obtain ⟨fd_Leading___init__, F_Leading___init__⟩ := c.def_ 31 (d := d_Leading___init__) rfl
  replace F_Leading___init__ : FunD K "__init__" "Leading.__init__" (defArgs s_Leading___init__) (defBody s_Leading___init__) (defScope s_Leading___init__) [] [] (He.fAd K d_Leading___init__.at_) fd_Leading___init__ := F_Leading___init__
  obtain ⟨fd_Leading_move, F_Leading_move⟩ := c.def_ 32 (d := d_Leading_move) rfl
  replace F_Leading_move : FunD K "move" "Leading.move" (defArgs s_Leading_move) (defBody s_Leading_move) (defScope s_Leading_move) [] [] (He.fAd K d_Leading_move.at_) fd_Leading_move := F_Leading_move
  obtain ⟨fd_Leading_go_on, F_Leading_go_on⟩ := c.def_ 33 (d := d_Leading_go_on) rfl
  replace F_Leading_go_on : FunD K "go_on" "Leading.go_on" (defArgs s_Leading_go_on) (defBody s_Leading_go_on) (defScope s_Leading_go_on) [] [] (He.fAd K d_Leading_go_on.at_) fd_Leading_go_on := F_Leading_go_on
  obtain ⟨fd_moves_by, F_moves_by⟩ := c.def_ 34 (d := d_moves_by) rfl
  replace F_moves_by : FnD K "moves_by" s_moves_by (He.fAd K d_moves_by.at_) fd_moves_by := F_moves_by
  obtain ⟨fd_fewest_moves, F_fewest_moves⟩ := c.def_ 35 (d := d_fewest_moves) rfl
  replace F_fewest_moves : FnD K "fewest_moves" s_fewest_moves (He.fAd K d_fewest_moves.at_) fd_fewest_moves := F_fewest_moves
  obtain ⟨fd__law_least, F__law_least⟩ := c.def_ 39 (d := d_lawleast) rfl
  replace F__law_least : FnD K "_law_least" s_lawleast (He.fAd K d_lawleast.at_) fd__law_least := F__law_least
  obtain ⟨fd__law_fork, F__law_fork⟩ := c.def_ 40 (d := d_lawfork) rfl
  replace F__law_fork : FnD K "_law_fork" s_lawfork (He.fAd K d_lawfork.at_) fd__law_fork := F__law_fork
  obtain ⟨fd__law_below, F__law_below⟩ := c.def_ 42 (d := d_lawbelow) rfl
  replace F__law_below : FnD K "_law_below" s_lawbelow (He.fAd K d_lawbelow.at_) fd__law_below := F__law_below
  obtain ⟨fd__law_lots, F__law_lots⟩ := c.def_ 44 (d := d_lawlots) rfl
  replace F__law_lots : FnD K "_law_lots" s_lawlots (He.fAd K d_lawlots.at_) fd__law_lots := F__law_lots
  obtain ⟨fd__law_to, F__law_to⟩ := c.def_ 43 (d := d_lawto) rfl
  replace F__law_to : FnD K "_law_to" s_lawto (He.fAd K d_lawto.at_) fd__law_to := F__law_to
  obtain ⟨fd__law_nodes, F__law_nodes⟩ := c.def_ 45 (d := d_lawnodes) rfl
  replace F__law_nodes : FnD K "_law_nodes" s_lawnodes (He.fAd K d_lawnodes.at_) fd__law_nodes := F__law_nodes
  obtain ⟨fd__law_head, F__law_head⟩ := c.def_ 46 (d := d_lawhead) rfl
  replace F__law_head : FnD K "_law_head" s_lawhead (He.fAd K d_lawhead.at_) fd__law_head := F__law_head
  obtain ⟨fd__law_way, F__law_way⟩ := c.def_ 47 (d := d_lawway) rfl
  replace F__law_way : FnD K "_law_way" s_lawway (He.fAd K d_lawway.at_) fd__law_way := F__law_way
  obtain ⟨fd__law_is_forest, F__law_is_forest⟩ := c.def_ 48 (d := d_lawis_forest) rfl
  replace F__law_is_forest : FnD K "_law_is_forest" s_lawis_forest (He.fAd K d_lawis_forest.at_) fd__law_is_forest := F__law_is_forest
  obtain ⟨fd__law_put, F__law_put⟩ := c.def_ 50 (d := d_lawput) rfl
  replace F__law_put : FnD K "_law_put" s_lawput (He.fAd K d_lawput.at_) fd__law_put := F__law_put
  obtain ⟨fd__law_moved, F__law_moved⟩ := c.def_ 51 (d := d_lawmoved) rfl
  replace F__law_moved : FnD K "_law_moved" s_lawmoved (He.fAd K d_lawmoved.at_) fd__law_moved := F__law_moved
  obtain ⟨fd__law_moves, F__law_moves⟩ := c.def_ 52 (d := d_lawmoves) rfl
  replace F__law_moves : FnD K "_law_moves" s_lawmoves (He.fAd K d_lawmoves.at_) fd__law_moves := F__law_moves
  obtain ⟨fd__law_all_parts, F__law_all_parts⟩ := c.def_ 49 (d := d_lawall_parts) rfl
  replace F__law_all_parts : FnD K "_law_all_parts" s_lawall_parts (He.fAd K d_lawall_parts.at_) fd__law_all_parts := F__law_all_parts
  obtain ⟨fd__law_forests, F__law_forests⟩ := c.def_ 54 (d := d_lawforests) rfl
  replace F__law_forests : FnD K "_law_forests" s_lawforests (He.fAd K d_lawforests.at_) fd__law_forests := F__law_forests
  obtain ⟨fd__law_text, F__law_text⟩ := c.def_ 55 (d := d_lawtext) rfl
  replace F__law_text : FnD K "_law_text" s_lawtext (He.fAd K d_lawtext.at_) fd__law_text := F__law_text
  obtain ⟨fd__law_tree, F__law_tree⟩ := c.def_ 41 (d := d_lawtree) rfl
  replace F__law_tree : FnD K "_law_tree" s_lawtree (He.fAd K d_lawtree.at_) fd__law_tree := F__law_tree
  obtain ⟨fd__law_far, F__law_far⟩ := c.def_ 56 (d := d_lawfar) rfl
  replace F__law_far : FnD K "_law_far" s_lawfar (He.fAd K d_lawfar.at_) fd__law_far := F__law_far
  obtain ⟨fd__law_pen, F__law_pen⟩ := c.def_ 36 (d := d_lawpen) rfl
  replace F__law_pen : FnD K "_law_pen" s_lawpen (He.fAd K d_lawpen.at_) fd__law_pen := F__law_pen
  obtain ⟨fd__law_draw, F__law_draw⟩ := c.def_ 37 (d := d_lawdraw) rfl
  replace F__law_draw : FnD K "_law_draw" s_lawdraw (He.fAd K d_lawdraw.at_) fd__law_draw := F__law_draw
  obtain ⟨fd__law_names, F__law_names⟩ := c.def_ 38 (d := d_lawnames) rfl
  replace F__law_names : FnD K "_law_names" s_lawnames (He.fAd K d_lawnames.at_) fd__law_names := F__law_names
  obtain ⟨fd__law_pair, F__law_pair⟩ := c.def_ 53 (d := d_lawpair) rfl
  replace F__law_pair : FnD K "_law_pair" s_lawpair (He.fAd K d_lawpair.at_) fd__law_pair := F__law_pair
  obtain ⟨fd_law, F_law⟩ := c.def_ 57 (d := d_law) rfl
  replace F_law : FnD K "law" s_law (He.fAd K d_law.at_) fd_law := F_law
  have g_has_all := He.glo_ok X G (c.fact 11 (f := .glo "has_all") rfl)
  have g_is_name := He.glo_ok X G (c.fact 0 (f := .glo "is_name") rfl)
  have g_is_lot := He.glo_ok X G (c.fact 1 (f := .glo "is_lot") rfl)
  have g_first_name := He.glo_ok X G (c.fact 2 (f := .glo "first_name") rfl)
  have g_standing := He.glo_ok X G (c.fact 3 (f := .glo "standing") rfl)
  have g_fork_of := He.glo_ok X G (c.fact 4 (f := .glo "fork_of") rfl)
  have g_names_in := He.glo_ok X G (c.fact 5 (f := .glo "names_in") rfl)
  have g_lots_below := He.glo_ok X G (c.fact 6 (f := .glo "lots_below") rfl)
  have g_lots_of := He.glo_ok X G (c.fact 7 (f := .glo "lots_of") rfl)
  have g_part_to := He.glo_ok X G (c.fact 8 (f := .glo "part_to") rfl)
  have g_tree_to := He.glo_ok X G (c.fact 9 (f := .glo "tree_to") rfl)
  have g_nodes_of := He.glo_ok X G (c.fact 10 (f := .glo "nodes_of") rfl)
  have g_head_of := He.glo_ok X G (c.fact 12 (f := .glo "head_of") rfl)
  have g_way_of := He.glo_ok X G (c.fact 13 (f := .glo "way_of") rfl)
  have g_are_apart := He.glo_ok X G (c.fact 14 (f := .glo "are_apart") rfl)
  have g_share := He.glo_ok X G (c.fact 16 (f := .glo "share") rfl)
  have g_are_parts := He.glo_ok X G (c.fact 15 (f := .glo "are_parts") rfl)
  have g_lets_forest := He.glo_ok X G (c.fact 17 (f := .glo "lets_forest") rfl)
  have g_longer_ones := He.glo_ok X G (c.fact 18 (f := .glo "longer_ones") rfl)
  have g_looked_for := He.glo_ok X G (c.fact 19 (f := .glo "looked_for") rfl)
  have g_fewest_forest := He.glo_ok X G (c.fact 20 (f := .glo "fewest_forest") rfl)
  have g_names_left := He.glo_ok X G (c.fact 21 (f := .glo "names_left") rfl)
  have g_put_beside := He.glo_ok X G (c.fact 23 (f := .glo "put_beside") rfl)
  have g_is_move := He.glo_ok X G (c.fact 22 (f := .glo "is_move") rfl)
  have g_does := He.glo_ok X G (c.fact 24 (f := .glo "does") rfl)
  have g_led := He.glo_ok X G (c.fact 25 (f := .glo "led") rfl)
  have g_moved := He.glo_ok X G (c.fact 26 (f := .glo "moved") rfl)
  have g_free_lot := He.glo_ok X G (c.fact 27 (f := .glo "free_lot") rfl)
  have g_one_lot := He.glo_ok X G (c.fact 30 (f := .glo "one_lot") rfl)
  have g_nodes_above := He.glo_ok X G (c.fact 28 (f := .glo "nodes_above") rfl)
  have g_met_above := He.glo_ok X G (c.fact 29 (f := .glo "met_above") rfl)
  have g_moves_by := He.glo_ok X G (c.fact 31 (f := .glo "moves_by") rfl)
  have g_fewest_moves := He.glo_ok X G (c.fact 32 (f := .glo "fewest_moves") rfl)
  have g__law_least := He.glo_ok X G (c.fact 36 (f := .glo "_law_least") rfl)
  have g__law_fork := He.glo_ok X G (c.fact 37 (f := .glo "_law_fork") rfl)
  have g__law_below := He.glo_ok X G (c.fact 39 (f := .glo "_law_below") rfl)
  have g__law_lots := He.glo_ok X G (c.fact 41 (f := .glo "_law_lots") rfl)
  have g__law_to := He.glo_ok X G (c.fact 40 (f := .glo "_law_to") rfl)
  have g__law_nodes := He.glo_ok X G (c.fact 42 (f := .glo "_law_nodes") rfl)
  have g__law_head := He.glo_ok X G (c.fact 43 (f := .glo "_law_head") rfl)
  have g__law_way := He.glo_ok X G (c.fact 44 (f := .glo "_law_way") rfl)
  have g__law_is_forest := He.glo_ok X G (c.fact 45 (f := .glo "_law_is_forest") rfl)
  have g__law_put := He.glo_ok X G (c.fact 47 (f := .glo "_law_put") rfl)
  have g__law_moved := He.glo_ok X G (c.fact 48 (f := .glo "_law_moved") rfl)
  have g__law_moves := He.glo_ok X G (c.fact 49 (f := .glo "_law_moves") rfl)
  have g__law_all_parts := He.glo_ok X G (c.fact 46 (f := .glo "_law_all_parts") rfl)
  have g__law_forests := He.glo_ok X G (c.fact 51 (f := .glo "_law_forests") rfl)
  have g__law_text := He.glo_ok X G (c.fact 52 (f := .glo "_law_text") rfl)
  have g__law_tree := He.glo_ok X G (c.fact 38 (f := .glo "_law_tree") rfl)
  have g__law_far := He.glo_ok X G (c.fact 53 (f := .glo "_law_far") rfl)
  have g__law_pen := He.glo_ok X G (c.fact 33 (f := .glo "_law_pen") rfl)
  have g__law_draw := He.glo_ok X G (c.fact 34 (f := .glo "_law_draw") rfl)
  have g__law_names := He.glo_ok X G (c.fact 35 (f := .glo "_law_names") rfl)
  have g__law_pair := He.glo_ok X G (c.fact 50 (f := .glo "_law_pair") rfl)
  have g_law := He.glo_ok X G (c.fact 54 (f := .glo "law") rfl)
  have g_Leading := He.glo_ok X G (c.fact 71 (f := .glo "Leading") rfl)
  have B : Bi mg := ⟨He.free_ok X G (c.fact 55 (f := .free "abs") rfl), He.free_ok X G (c.fact 56 (f := .free "all") rfl), He.free_ok X G (c.fact 57 (f := .free "any") rfl), He.free_ok X G (c.fact 58 (f := .free "enumerate") rfl), He.free_ok X G (c.fact 59 (f := .free "int") rfl), He.free_ok X G (c.fact 60 (f := .free "isinstance") rfl), He.free_ok X G (c.fact 61 (f := .free "len") rfl), He.free_ok X G (c.fact 62 (f := .free "list") rfl), He.free_ok X G (c.fact 63 (f := .free "min") rfl), He.free_ok X G (c.fact 64 (f := .free "range") rfl), He.free_ok X G (c.fact 65 (f := .free "set") rfl), He.free_ok X G (c.fact 66 (f := .free "sorted") rfl), He.free_ok X G (c.fact 67 (f := .free "str") rfl), He.free_ok X G (c.fact 68 (f := .free "tuple") rfl)⟩
  obtain ⟨_, GL⟩ := He.str_ok X G (c.fact 69 (f := .str "LETTERS" "abcdefghijklmnopqrstuvwxyz") rfl)
  obtain ⟨_, GI⟩ := He.int_ok X G (c.fact 70 (f := .int "LONGEST" 8) rfl)
  have L : LdC K (He.ga K "Leading") := ⟨He.cls_ok (c.fact 72 (f := .cls "Leading") rfl), He.noat_ok (c.fact 76 (f := .noat "Leading" "tree") rfl), He.noat_ok (c.fact 77 (f := .noat "Leading" "goal") rfl), He.noat_ok (c.fact 78 (f := .noat "Leading" "top") rfl), He.noat_ok (c.fact 79 (f := .noat "Leading" "others") rfl), He.noat_ok (c.fact 80 (f := .noat "Leading" "moves") rfl)⟩
  have Mk0 := He.mkr_ok (c.fact 73 (f := .mkr "Leading") rfl)
  have Mm := He.meth_ok (c.fact 74 (f := .meth "Leading" "move") rfl)
  have Mg := He.meth_ok (c.fact 75 (f := .meth "Leading" "go_on") rfl)
  have e := hfa.symm.trans g_law
  cases e
  have b := FunD.bindsA (ps := ["_law_script"]) F_law fun _ _ _ _ _ _ us hl => match us, hl with | [_], _ => rfl
  refine ⟨fd_law, fun s v => b s [v] rfl, fun base _ _ => ?_⟩
  have c__law_draw := cal_mk F__law_draw (ok__law_draw (P := P) (w := w) (mg := mg) (base := base) F__law_draw B) g__law_draw (bd2 fun _ _ _ _ _ _ _ _ => by first | rfl | kernel_rfl)
  have A : ∀ (nm : Nat → Str) (n : Nat), Nm nm n → (FnOk P w K mg base CX0 33 (He.fAd K d_fewest_moves.at_) fd_fewest_moves ["one", "other"] (spFewestMoves nm n)) ∧ (FnOk P w K mg base CX0 25 (He.fAd K d_led.at_) fd_led ["tree", "moves"] (spLed nm n)) ∧ (FnOk P w K mg base CX0 29 (He.fAd K d_moves_by.at_) fd_moves_by ["one", "other", "forest"] (spMovesBy nm n)) ∧ (FnOk P w K mg base CX0 3 (He.fAd K d_lawtree.at_) fd__law_tree ["_law_pen_here", "_law_names_here", "_law_wide"] (spTree nm n)) ∧ (FnOk P w K mg base CX0 12 (He.fAd K d_lawmoves.at_) fd__law_moves ["_law_tree_here"] (spLawMoves nm n)) ∧ (FnOk P w K mg base CX0 12 (He.fAd K d_lawmoved.at_) fd__law_moved ["_law_tree_here", "_law_lot", "_law_place"] (spLawMoved nm n)) ∧ (FnOk P w K mg base CX0 13 (He.fAd K d_lawfar.at_) fd__law_far ["_law_one"] (spFar nm n)) ∧ (FnOk P w K mg base CX0 10 (He.fAd K d_lawtext.at_) fd__law_text ["_law_tree_here"] (spText nm n 9)) ∧ (FnOk P w K mg base CX0 13 (He.fAd K d_lawforests.at_) fd__law_forests ["_law_one", "_law_other"] (spForests nm n)) ∧ (FnOk P w K mg base CX0 1 (He.fAd K d_lawbelow.at_) fd__law_below ["_law_tree_here"] (spNamesIn nm n)) := by
    intro nm n N
    have o_has_all : FnOk P w K mg base CX0 1 _ fd_has_all ["lot", "names"] (spHasAll nm n) := ok_has_all (P := P) (w := w) (mg := mg) (base := base) F_has_all B N
    have c_has_all := cal_mk F_has_all o_has_all g_has_all (bd2 fun _ _ _ _ _ _ _ _ => by first | rfl | kernel_rfl)
    have o_is_name : FnOk P w K mg base CX0 1 _ fd_is_name ["thing"] (spIsName nm n) := ok_is_name (P := P) (w := w) (mg := mg) (base := base) F_is_name B N GL GI
    have c_is_name := cal_mk F_is_name o_is_name g_is_name (bd1 fun _ _ _ _ _ _ _ => by first | rfl | kernel_rfl)
    have o_is_lot : FnOk P w K mg base CX0 2 _ fd_is_lot ["thing"] (spIsLot nm n) := ok_is_lot (P := P) (w := w) (mg := mg) (base := base) F_is_lot B N c_is_name
    have c_is_lot := cal_mk F_is_lot o_is_lot g_is_lot (bd1 fun _ _ _ _ _ _ _ => by first | rfl | kernel_rfl)
    have o_first_name : FnOk P w K mg base CX0 1 _ fd_first_name ["tree"] (spFirst nm) := ok_first_name (P := P) (w := w) (mg := mg) (base := base) F_first_name B
    have c_first_name := cal_mk F_first_name o_first_name g_first_name (bd1 fun _ _ _ _ _ _ _ => by first | rfl | kernel_rfl)
    have o_standing : FnOk P w K mg base CX0 10 _ fd_standing ["tree"] (spStanding nm 9) := (ok_standing (P := P) (w := w) (mg := mg) (base := base) F_standing B g_standing) 9
    have c_standing := cal_mk F_standing o_standing g_standing (bd1 fun _ _ _ _ _ _ _ => by first | rfl | kernel_rfl)
    have o_fork_of : FnOk P w K mg base CX0 4 _ fd_fork_of ["parts"] (spFork nm n) := ok_fork_of (P := P) (w := w) (mg := mg) (base := base) F_fork_of B N c_first_name
    have c_fork_of := cal_mk F_fork_of o_fork_of g_fork_of (bd1 fun _ _ _ _ _ _ _ => by first | rfl | kernel_rfl)
    have o_names_in : FnOk P w K mg base CX0 11 _ fd_names_in ["tree"] (spNamesIn nm n) := ok_names_in (P := P) (w := w) (mg := mg) (base := base) F_names_in B N c_standing
    have c_names_in := cal_mk F_names_in o_names_in g_names_in (bd1 fun _ _ _ _ _ _ _ => by first | rfl | kernel_rfl)
    have o_lots_below : FnOk P w K mg base CX0 21 _ fd_lots_below ["tree"] (spLotsBelow nm n 9) := (ok_lots_below (P := P) (w := w) (mg := mg) (base := base) F_lots_below B N c_names_in g_lots_below) 9
    have c_lots_below := cal_mk F_lots_below o_lots_below g_lots_below (bd1 fun _ _ _ _ _ _ _ => by first | rfl | kernel_rfl)
    have o_lots_of : FnOk P w K mg base CX0 22 _ fd_lots_of ["tree"] (spLotsOf nm n) := ok_lots_of (P := P) (w := w) (mg := mg) (base := base) F_lots_of B N c_lots_below
    have c_lots_of := cal_mk F_lots_of o_lots_of g_lots_of (bd1 fun _ _ _ _ _ _ _ => by first | rfl | kernel_rfl)
    have o_part_to : FnOk P w K mg base CX0 14 _ fd_part_to ["tree", "names"] (spPartTo nm n 9) := (ok_part_to (P := P) (w := w) (mg := mg) (base := base) F_part_to B N c_fork_of g_part_to) 9
    have c_part_to := cal_mk F_part_to o_part_to g_part_to (bd2 fun _ _ _ _ _ _ _ _ => by first | rfl | kernel_rfl)
    have o_tree_to : FnOk P w K mg base CX0 15 _ fd_tree_to ["tree", "names"] (spTreeTo nm n) := ok_tree_to (P := P) (w := w) (mg := mg) (base := base) F_tree_to B N c_part_to
    have c_tree_to := cal_mk F_tree_to o_tree_to g_tree_to (bd2 fun _ _ _ _ _ _ _ _ => by first | rfl | kernel_rfl)
    have o_nodes_of : FnOk P w K mg base CX0 23 _ fd_nodes_of ["tree"] (spNodesOf nm n) := ok_nodes_of (P := P) (w := w) (mg := mg) (base := base) F_nodes_of B N c_lots_of c_names_in
    have c_nodes_of := cal_mk F_nodes_of o_nodes_of g_nodes_of (bd1 fun _ _ _ _ _ _ _ => by first | rfl | kernel_rfl)
    have o_head_of : FnOk P w K mg base CX0 2 _ fd_head_of ["nodes", "lot"] (spHeadOf nm n) := ok_head_of (P := P) (w := w) (mg := mg) (base := base) F_head_of B N c_has_all
    have c_head_of := cal_mk F_head_of o_head_of g_head_of (bd2 fun _ _ _ _ _ _ _ _ => by first | rfl | kernel_rfl)
    have o_way_of : FnOk P w K mg base CX0 3 _ fd_way_of ["nodes", "lot", "is_top"] (spWayOf nm n) := ok_way_of (P := P) (w := w) (mg := mg) (base := base) F_way_of B N c_head_of
    have c_way_of := calD_mk F_way_of o_way_of g_way_of 2 (by simp) rfl (fun D doc pm an cdv ct us ks h1 h2 => match us, h1, ks, h2 with | [u0, u1], _, [z], _ => ⟨_, _, _, _, _, _, rfl, rfl, rfl⟩)
    have k_way_of := calK_mk F_way_of o_way_of g_way_of 2 ["is_top"] (bk21 fun _ _ _ _ _ _ _ _ _ => by first | rfl | kernel_rfl)
    have o_are_apart : FnOk P w K mg base CX0 24 _ fd_are_apart ["tree", "top", "others"] (spAreApart nm n) := ok_are_apart (P := P) (w := w) (mg := mg) (base := base) F_are_apart B N c_nodes_of c_way_of k_way_of
    have c_are_apart := cal_mk F_are_apart o_are_apart g_are_apart (bd3 fun _ _ _ _ _ _ _ _ _ => by first | rfl | kernel_rfl)
    have o_share : FnOk P w K mg base CX0 25 _ fd_share ["one", "other", "top", "others"] (spShare nm n) := ok_share (P := P) (w := w) (mg := mg) (base := base) F_share B N c_tree_to c_are_apart
    have c_share := cal_mk F_share o_share g_share (bd4 fun _ _ _ _ _ _ _ _ _ _ => by first | rfl | kernel_rfl)
    have o_are_parts : FnOk P w K mg base CX0 3 _ fd_are_parts ["thing", "names"] (spAreParts nm n) := ok_are_parts (P := P) (w := w) (mg := mg) (base := base) F_are_parts B N c_is_lot
    have c_are_parts := cal_mk F_are_parts o_are_parts g_are_parts (bd2 fun _ _ _ _ _ _ _ _ => by first | rfl | kernel_rfl)
    have o_lets_forest : FnOk P w K mg base CX0 26 _ fd_lets_forest ["one", "other", "thing", "ringless"] (spLets nm n) := ok_lets_forest (P := P) (w := w) (mg := mg) (base := base) F_lets_forest B N c_are_parts c_names_in c_share
    have c_lets_forest := calD_mk F_lets_forest o_lets_forest g_lets_forest 3 (by simp) rfl (fun D doc pm an cdv ct us ks h1 h2 => match us, h1, ks, h2 with | [u0, u1, u2], _, [z], _ => ⟨_, _, _, _, _, _, rfl, rfl, rfl⟩)
    have o_longer_ones : FnOk P w K mg base CX0 1 _ fd_longer_ones ["top", "others", "name", "most"] (spLonger nm n) := ok_longer_ones (P := P) (w := w) (mg := mg) (base := base) F_longer_ones B
    have c_longer_ones := cal_mk F_longer_ones o_longer_ones g_longer_ones (bd4 fun _ _ _ _ _ _ _ _ _ _ => by first | rfl | kernel_rfl)
    have o_looked_for : FnOk P w K mg base CX0 31 _ fd_looked_for ["one", "other", "names", "begun", "most", "ringless"] (spLooked nm n 6) := (ok_looked_for (P := P) (w := w) (mg := mg) (base := base) F_looked_for B N c_longer_ones c_share g_looked_for) 6
    have k_looked_for := calK_mk F_looked_for o_looked_for g_looked_for 5 ["ringless"] (bk51 fun _ _ _ _ _ _ _ _ _ _ _ _ => by first | rfl | kernel_rfl)
    have o_fewest_forest : FnOk P w K mg base CX0 32 _ fd_fewest_forest ["one", "other", "ringless"] (spFewest nm n) := ok_fewest_forest (P := P) (w := w) (mg := mg) (base := base) F_fewest_forest B N c_names_in k_looked_for
    have c_fewest_forest := calD_mk F_fewest_forest o_fewest_forest g_fewest_forest 2 (by simp) rfl (fun D doc pm an cdv ct us ks h1 h2 => match us, h1, ks, h2 with | [u0, u1], _, [z], _ => ⟨_, _, _, _, _, _, rfl, rfl, rfl⟩)
    have o_names_left : FnOk P w K mg base CX0 12 _ fd_names_left ["tree", "lot"] (spLeft nm n) := ok_names_left (P := P) (w := w) (mg := mg) (base := base) F_names_left B N c_names_in
    have c_names_left := cal_mk F_names_left o_names_left g_names_left (bd2 fun _ _ _ _ _ _ _ _ => by first | rfl | kernel_rfl)
    have o_put_beside : FnOk P w K mg base CX0 20 _ fd_put_beside ["tree", "place", "part"] (spPut nm n 9) := (ok_put_beside (P := P) (w := w) (mg := mg) (base := base) F_put_beside B N c_names_in c_fork_of c_has_all g_put_beside) 9
    have c_put_beside := cal_mk F_put_beside o_put_beside g_put_beside (bd3 fun _ _ _ _ _ _ _ _ _ => by first | rfl | kernel_rfl)
    have o_is_move : FnOk P w K mg base CX0 24 _ fd_is_move ["tree", "thing"] (spIsMove nm n) := ok_is_move (P := P) (w := w) (mg := mg) (base := base) F_is_move B N c_is_lot c_names_left c_nodes_of c_tree_to
    have c_is_move := cal_mk F_is_move o_is_move g_is_move (bd2 fun _ _ _ _ _ _ _ _ => by first | rfl | kernel_rfl)
    have o_does : FnOk P w K mg base CX0 21 _ fd_does ["tree", "move"] (spDoes nm n) := ok_does (P := P) (w := w) (mg := mg) (base := base) F_does B N c_put_beside c_names_left c_tree_to
    have c_does := cal_mk F_does o_does g_does (bd2 fun _ _ _ _ _ _ _ _ => by first | rfl | kernel_rfl)
    have o_led : FnOk P w K mg base CX0 25 _ fd_led ["tree", "moves"] (spLed nm n) := ok_led (P := P) (w := w) (mg := mg) (base := base) F_led B N c_is_move c_does
    have c_led := cal_mk F_led o_led g_led (bd2 fun _ _ _ _ _ _ _ _ => by first | rfl | kernel_rfl)
    have o_moved : FnOk P w K mg base CX0 26 _ fd_moved ["tree", "move"] (spMoved nm n) := ok_moved (P := P) (w := w) (mg := mg) (base := base) F_moved B N c_led
    have c_moved := cal_mk F_moved o_moved g_moved (bd2 fun _ _ _ _ _ _ _ _ => by first | rfl | kernel_rfl)
    have o_free_lot : FnOk P w K mg base CX0 24 _ fd_free_lot ["tree", "others"] (spFree nm n) := ok_free_lot (P := P) (w := w) (mg := mg) (base := base) F_free_lot B N c_nodes_of
    have c_free_lot := cal_mk F_free_lot o_free_lot g_free_lot (bd2 fun _ _ _ _ _ _ _ _ => by first | rfl | kernel_rfl)
    have o_one_lot : FnOk P w K mg base CX0 1 _ fd_one_lot ["lot", "mate"] (spOneLot nm n) := ok_one_lot (P := P) (w := w) (mg := mg) (base := base) F_one_lot B N
    have c_one_lot := cal_mk F_one_lot o_one_lot g_one_lot (bd2 fun _ _ _ _ _ _ _ _ => by first | rfl | kernel_rfl)
    have o_nodes_above : FnOk P w K mg base CX0 3 _ fd_nodes_above ["nodes", "lot"] (spAbove nm n) := ok_nodes_above (P := P) (w := w) (mg := mg) (base := base) F_nodes_above B N c_head_of c_has_all
    have c_nodes_above := cal_mk F_nodes_above o_nodes_above g_nodes_above (bd2 fun _ _ _ _ _ _ _ _ => by first | rfl | kernel_rfl)
    have o_met_above : FnOk P w K mg base CX0 24 _ fd_met_above ["tree", "top", "others", "lot"] (spMet nm n) := ok_met_above (P := P) (w := w) (mg := mg) (base := base) F_met_above B N c_nodes_of c_nodes_above c_way_of k_way_of
    have c_met_above := cal_mk F_met_above o_met_above g_met_above (bd4 fun _ _ _ _ _ _ _ _ _ _ => by first | rfl | kernel_rfl)
    have o_Leading___init__ : FnOk P w K mg base CX0 1 _ fd_Leading___init__ ["self", "tree", "goal", "forest"] (spInit nm n (He.ga K "Leading")) := ok_ld_init (P := P) (w := w) (mg := mg) (base := base) F_Leading___init__ B L
    have c_Leading : CalC P w K mg base 1 (He.ga K "Leading") "Leading" ["self", "tree", "goal", "forest"] (spInit nm n (He.ga K "Leading")) := ⟨⟨_, _, o_Leading___init__, Mk0, g_Leading, F_Leading___init__.bindsN fun _ _ _ _ _ _ us hl => match us, hl with | [a, b, c, d], _ => by first | rfl | kernel_rfl⟩⟩
    have o_Leading_move : FnOk P w K mg base CX0 27 _ fd_Leading_move ["self", "lot", "names"] (spMvL nm n (He.ga K "Leading")) := ok_ld_move (P := P) (w := w) (mg := mg) (base := base) F_Leading_move B N L c_names_left c_head_of c_nodes_of c_tree_to c_moved
    have m_move : CalM P w K mg base 27 (He.ga K "Leading") "move" ["self", "lot", "names"] (spMvL nm n (He.ga K "Leading")) := ⟨L.cls, ⟨_, _, o_Leading_move, Mm, F_Leading_move.bindsN fun _ _ _ _ _ _ us hl => match us, hl with | [a0, a1, a2], _ => by first | rfl | kernel_rfl⟩⟩
    have o_Leading_go_on : FnOk P w K mg base CX0 28 _ fd_Leading_go_on ["self"] (spGoOn nm n (He.ga K "Leading")) := ok_ld_go_on (P := P) (w := w) (mg := mg) (base := base) F_Leading_go_on B N L c_free_lot c_met_above c_names_left c_one_lot m_move
    have m_go_on : CalM P w K mg base 28 (He.ga K "Leading") "go_on" ["self"] (spGoOn nm n (He.ga K "Leading")) := ⟨L.cls, ⟨_, _, o_Leading_go_on, Mg, F_Leading_go_on.bindsN fun _ _ _ _ _ _ us hl => match us, hl with | [a0], _ => by first | rfl | kernel_rfl⟩⟩
    have o_moves_by : FnOk P w K mg base CX0 29 _ fd_moves_by ["one", "other", "forest"] (spMovesBy nm n) := ok_moves_by (P := P) (w := w) (mg := mg) (base := base) F_moves_by B N L c_lets_forest c_Leading m_go_on
    have c_moves_by := cal_mk F_moves_by o_moves_by g_moves_by (bd3 fun _ _ _ _ _ _ _ _ _ => by first | rfl | kernel_rfl)
    have o_fewest_moves : FnOk P w K mg base CX0 33 _ fd_fewest_moves ["one", "other"] (spFewestMoves nm n) := ok_fewest_moves (P := P) (w := w) (mg := mg) (base := base) F_fewest_moves B N c_fewest_forest c_moves_by
    have c_fewest_moves := cal_mk F_fewest_moves o_fewest_moves g_fewest_moves (bd2 fun _ _ _ _ _ _ _ _ => by first | rfl | kernel_rfl)
    have o__law_least : FnOk P w K mg base CX0 1 _ fd__law_least ["_law_tree_here"] (spFirst nm) := ok__law_least (P := P) (w := w) (mg := mg) (base := base) F__law_least B
    have c__law_least := cal_mk F__law_least o__law_least g__law_least (bd1 fun _ _ _ _ _ _ _ => by first | rfl | kernel_rfl)
    have o__law_fork : FnOk P w K mg base CX0 2 _ fd__law_fork ["_law_parts"] (spFork nm n) := ok__law_fork (P := P) (w := w) (mg := mg) (base := base) F__law_fork B N c__law_least
    have c__law_fork := cal_mk F__law_fork o__law_fork g__law_fork (bd1 fun _ _ _ _ _ _ _ => by first | rfl | kernel_rfl)
    have o__law_below : FnOk P w K mg base CX0 1 _ fd__law_below ["_law_tree_here"] (spNamesIn nm n) := ok__law_below (P := P) (w := w) (mg := mg) (base := base) F__law_below B N
    have c__law_below := cal_mk F__law_below o__law_below g__law_below (bd1 fun _ _ _ _ _ _ _ => by first | rfl | kernel_rfl)
    have o__law_lots : FnOk P w K mg base CX0 2 _ fd__law_lots ["_law_tree_here"] (spLotsOf nm n) := ok__law_lots (P := P) (w := w) (mg := mg) (base := base) F__law_lots B N c__law_below
    have c__law_lots := cal_mk F__law_lots o__law_lots g__law_lots (bd1 fun _ _ _ _ _ _ _ => by first | rfl | kernel_rfl)
    have o__law_to : FnOk P w K mg base CX0 11 _ fd__law_to ["_law_tree_here", "_law_names_here"] (spLawTo K nm n 9) := (ok__law_to (P := P) (w := w) (mg := mg) (base := base) F__law_to B N c__law_fork g__law_to) 9
    have c__law_to := cal_mk F__law_to o__law_to g__law_to (bd2 fun _ _ _ _ _ _ _ _ => by first | rfl | kernel_rfl)
    have o__law_nodes : FnOk P w K mg base CX0 3 _ fd__law_nodes ["_law_tree_here"] (spNodesOf nm n) := ok__law_nodes (P := P) (w := w) (mg := mg) (base := base) F__law_nodes B N c__law_lots c__law_below
    have c__law_nodes := cal_mk F__law_nodes o__law_nodes g__law_nodes (bd1 fun _ _ _ _ _ _ _ => by first | rfl | kernel_rfl)
    have o__law_head : FnOk P w K mg base CX0 1 _ fd__law_head ["_law_nodes_here", "_law_lot"] (spHeadOf nm n) := ok__law_head (P := P) (w := w) (mg := mg) (base := base) F__law_head B N
    have c__law_head := cal_mk F__law_head o__law_head g__law_head (bd2 fun _ _ _ _ _ _ _ _ => by first | rfl | kernel_rfl)
    have o__law_way : FnOk P w K mg base CX0 2 _ fd__law_way ["_law_nodes_here", "_law_lot", "_law_is_top"] (spWayOf nm n) := ok__law_way (P := P) (w := w) (mg := mg) (base := base) F__law_way B N c__law_head
    have c__law_way := cal_mk F__law_way o__law_way g__law_way (bd3 fun _ _ _ _ _ _ _ _ _ => by first | rfl | kernel_rfl)
    have o__law_is_forest : FnOk P w K mg base CX0 12 _ fd__law_is_forest ["_law_one", "_law_other", "_law_top", "_law_others"] (spShare nm n) := ok__law_is_forest (P := P) (w := w) (mg := mg) (base := base) F__law_is_forest B N c__law_to c__law_nodes c__law_way
    have c__law_is_forest := cal_mk F__law_is_forest o__law_is_forest g__law_is_forest (bd4 fun _ _ _ _ _ _ _ _ _ _ => by first | rfl | kernel_rfl)
    have o__law_put : FnOk P w K mg base CX0 11 _ fd__law_put ["_law_tree_here", "_law_place", "_law_part"] (spPut nm n 9) := (ok__law_put (P := P) (w := w) (mg := mg) (base := base) F__law_put B N c__law_below c__law_fork g__law_put) 9
    have c__law_put := cal_mk F__law_put o__law_put g__law_put (bd3 fun _ _ _ _ _ _ _ _ _ => by first | rfl | kernel_rfl)
    have o__law_moved : FnOk P w K mg base CX0 12 _ fd__law_moved ["_law_tree_here", "_law_lot", "_law_place"] (spLawMoved nm n) := ok__law_moved (P := P) (w := w) (mg := mg) (base := base) F__law_moved B N c__law_below c__law_to c__law_put
    have c__law_moved := cal_mk F__law_moved o__law_moved g__law_moved (bd3 fun _ _ _ _ _ _ _ _ _ => by first | rfl | kernel_rfl)
    have o__law_moves : FnOk P w K mg base CX0 12 _ fd__law_moves ["_law_tree_here"] (spLawMoves nm n) := ok__law_moves (P := P) (w := w) (mg := mg) (base := base) F__law_moves B N c__law_below c__law_to c__law_nodes
    have c__law_moves := cal_mk F__law_moves o__law_moves g__law_moves (bd1 fun _ _ _ _ _ _ _ => by first | rfl | kernel_rfl)
    have o__law_all_parts : FnOk P w K mg base CX0 1 _ fd__law_all_parts ["_law_names_here"] (spAllParts nm n) := ok__law_all_parts (P := P) (w := w) (mg := mg) (base := base) F__law_all_parts B
    have c__law_all_parts := cal_mk F__law_all_parts o__law_all_parts g__law_all_parts (bd1 fun _ _ _ _ _ _ _ => by first | rfl | kernel_rfl)
    have o__law_forests : FnOk P w K mg base CX0 13 _ fd__law_forests ["_law_one", "_law_other"] (spForests nm n) := ok__law_forests (P := P) (w := w) (mg := mg) (base := base) F__law_forests B N c__law_all_parts c__law_below c__law_is_forest
    have c__law_forests := cal_mk F__law_forests o__law_forests g__law_forests (bd2 fun _ _ _ _ _ _ _ _ => by first | rfl | kernel_rfl)
    have o__law_text : FnOk P w K mg base CX0 10 _ fd__law_text ["_law_tree_here"] (spText nm n 9) := (ok__law_text (P := P) (w := w) (mg := mg) (base := base) F__law_text B N g__law_text) 9
    have c__law_text := cal_mk F__law_text o__law_text g__law_text (bd1 fun _ _ _ _ _ _ _ => by first | rfl | kernel_rfl)
    have o__law_tree : FnOk P w K mg base CX0 3 _ fd__law_tree ["_law_pen_here", "_law_names_here", "_law_wide"] (spTree nm n) := ok__law_tree (P := P) (w := w) (mg := mg) (base := base) F__law_tree B N c__law_draw c__law_fork
    have c__law_tree := cal_mk F__law_tree o__law_tree g__law_tree (bd3 fun _ _ _ _ _ _ _ _ _ => by first | rfl | kernel_rfl)
    have o__law_far : FnOk P w K mg base CX0 13 _ fd__law_far ["_law_one"] (spFar nm n) := ok__law_far (P := P) (w := w) (mg := mg) (base := base) F__law_far B N c__law_text c__law_moves c__law_moved
    have c__law_far := cal_mk F__law_far o__law_far g__law_far (bd1 fun _ _ _ _ _ _ _ => by first | rfl | kernel_rfl)
    exact ⟨o_fewest_moves, o_led, o_moves_by, o__law_tree, o__law_moves, o__law_moved, o__law_far, o__law_text, o__law_forests, o__law_below⟩
  have c_fewest_moves := cal_mk F_fewest_moves (all_nm (P := P) (w := w) (mg := mg) (base := base) (sp := spFewestMoves) fun nm n N => (A nm n N).1) g_fewest_moves (bd2 fun _ _ _ _ _ _ _ _ => by first | rfl | kernel_rfl)
  have c_led := cal_mk F_led (all_nm (P := P) (w := w) (mg := mg) (base := base) (sp := spLed) fun nm n N => (A nm n N).2.1) g_led (bd2 fun _ _ _ _ _ _ _ _ => by first | rfl | kernel_rfl)
  have c_moves_by := cal_mk F_moves_by (all_nm (P := P) (w := w) (mg := mg) (base := base) (sp := spMovesBy) fun nm n N => (A nm n N).2.2.1) g_moves_by (bd3 fun _ _ _ _ _ _ _ _ _ => by first | rfl | kernel_rfl)
  have c__law_tree := cal_mk F__law_tree (all_nm (P := P) (w := w) (mg := mg) (base := base) (sp := spTree) fun nm n N => (A nm n N).2.2.2.1) g__law_tree (bd3 fun _ _ _ _ _ _ _ _ _ => by first | rfl | kernel_rfl)
  have c__law_moves := cal_mk F__law_moves (all_nm (P := P) (w := w) (mg := mg) (base := base) (sp := spLawMoves) fun nm n N => (A nm n N).2.2.2.2.1) g__law_moves (bd1 fun _ _ _ _ _ _ _ => by first | rfl | kernel_rfl)
  have c__law_moved := cal_mk F__law_moved (all_nm (P := P) (w := w) (mg := mg) (base := base) (sp := spLawMoved) fun nm n N => (A nm n N).2.2.2.2.2.1) g__law_moved (bd3 fun _ _ _ _ _ _ _ _ _ => by first | rfl | kernel_rfl)
  have c__law_far := cal_mk F__law_far (all_nm (P := P) (w := w) (mg := mg) (base := base) (sp := spFar) fun nm n N => (A nm n N).2.2.2.2.2.2.1) g__law_far (bd1 fun _ _ _ _ _ _ _ => by first | rfl | kernel_rfl)
  have c__law_text := cal_mk F__law_text (all_nm (P := P) (w := w) (mg := mg) (base := base) (sp := fun nm n => spText nm n 9) fun nm n N => (A nm n N).2.2.2.2.2.2.2.1) g__law_text (bd1 fun _ _ _ _ _ _ _ => by first | rfl | kernel_rfl)
  have c__law_forests := cal_mk F__law_forests (all_nm (P := P) (w := w) (mg := mg) (base := base) (sp := spForests) fun nm n N => (A nm n N).2.2.2.2.2.2.2.2.1) g__law_forests (bd2 fun _ _ _ _ _ _ _ _ => by first | rfl | kernel_rfl)
  have c__law_below := cal_mk F__law_below (all_nm (P := P) (w := w) (mg := mg) (base := base) (sp := spNamesIn) fun nm n N => (A nm n N).2.2.2.2.2.2.2.2.2) g__law_below (bd1 fun _ _ _ _ _ _ _ => by first | rfl | kernel_rfl)
  have c__law_pen := cal_mk F__law_pen (ok__law_pen (P := P) (w := w) (mg := mg) (base := base) F__law_pen B) g__law_pen (bd1 fun _ _ _ _ _ _ _ => by first | rfl | kernel_rfl)
  have c__law_names := cal_mk F__law_names (ok__law_names (P := P) (w := w) (mg := mg) (base := base) F__law_names B c__law_draw) g__law_names (bd2 fun _ _ _ _ _ _ _ _ => by first | rfl | kernel_rfl)
  have c__law_pair := cal_mk F__law_pair (ok__law_pair (P := P) (w := w) (mg := mg) (base := base) F__law_pair B c__law_draw c__law_names c__law_tree c__law_moves c__law_moved) g__law_pair (bd2 fun _ _ _ _ _ _ _ _ => by first | rfl | kernel_rfl)
  exact ok_law (P := P) (w := w) (mg := mg) (base := base) F_law B c__law_pen c__law_pair c__law_draw c__law_far c_fewest_moves c__law_text c_led c__law_forests c_moves_by c__law_below
end Jw
end

set_option Elab.async false
set_option linter.all false
set_option maxRecDepth 100000
set_option maxHeartbeats 0
open PySem PySem.W PySem.Calls PyProof.Rows
theorem PySem.Challenge.cw_joinedtrees_k56_whole_no_fewer_moves_holds : PySem.Challenge.rw_joinedtrees_k56_whole_no_fewer_moves.Holds := by
  w_on; o_law
  refine HandSHeadRun.head_any (r := OpenLaw.row PySem.Challenge.rw_joinedtrees_k56_whole_no_fewer_moves) (q := view (OpenLaw.row PySem.Challenge.rw_joinedtrees_k56_whole_no_fewer_moves).prog [70]) (H := JH.hk) (ob := JH.ob) (M := 3000) (loose := JH.loose) (d := HandSHeadRun.topDef (OpenLaw.row PySem.Challenge.rw_joinedtrees_k56_whole_no_fewer_moves).prog 70) (kwd := []) JH.ob_eq
    (by kernel_rfl) (fun s => by kernel_rfl) JH.run (by kernel_rfl) (by kernel_rfl) (by kernel_rfl) (by rfl) (by first | assumption | decide +kernel) (by decide +kernel) ⟨rfl, rfl, rfl, rfl, rfl, by decide +kernel⟩ ?hw ?hc
  case hw => w_witness2
  case hc =>
    refine L2.walk_ofE (l := PySem.Challenge.rw_joinedtrees_k56_whole_no_fewer_moves) (n := 63) (k := 34) (x := "_law_script") (CX := L2.CX0) rfl (by decide) (by kernel_rfl) ⟨rfl, by decide, by decide⟩ ?F (fun _ _ _ _ z => z)
    intro w mg fa h Y G hmg0
    obtain ⟨K, KX, c⟩ := Y
    have hmg : mg ("law" : PySem.Str) = some (.ref fa) := by
      have e : (HandSHeadRun.topDef (OpenLaw.row PySem.Challenge.rw_joinedtrees_k56_whole_no_fewer_moves).prog 70).name = ("law" : PySem.Str) := by kernel_rfl
      rw [← e]
      exact hmg0
    obtain ⟨fd, hb, hF⟩ := Jw.facts (P := (PySem.Challenge.rw_joinedtrees_k56_whole_no_fewer_moves).prog) (w := w) KX G hmg c
    exact ⟨K, fd, Jw.spLaw K, KX, hb, fun H a ns hl _ hS => ⟨a, ns, rfl, hS, fun _ => rfl⟩, hF⟩
