import PyProof.Rows.All
import Wide.All
import OpenK.AllK
import Wide.FinOn
import HandS.ForMost
import HandS.TupAny
import HandS.TupMul
import HandS.IsInst
import HandS.Deep
import HandS.Zip
import HandS.Conv
import HandS.Style
import KE.GoesNew
import KE.SortData
import HandS.SortOrd
import HandS.GenList
import PySem.Challenge.RW_polychains_k04_whole_spaces
/-! Linear algebra over a field with finitely many elements, rows as functions; core Lean alone. -/
set_option linter.all false
namespace PcLin
open Lean.Grind

section sums
variable {F : Type} [CommRing F]
def sm {α : Type} (l : List α) (g : α → F) : F := l.foldr (fun x s => g x + s) 0
theorem sm_nil {α : Type} (g : α → F) : sm [] g = 0 := rfl
theorem sm_cons {α : Type} (x : α) (l : List α) (g : α → F) : sm (x :: l) g = g x + sm l g := rfl
theorem sm_add {α : Type} (l : List α) (g h : α → F) : sm l (fun x => g x + h x) = sm l g + sm l h := by
  induction l with
  | nil => rw [sm_nil, sm_nil, sm_nil]; grind
  | cons x l ih => rw [sm_cons, sm_cons, sm_cons, ih]; grind
theorem sm_mul {α : Type} (l : List α) (a : F) (g : α → F) : sm l (fun x => a * g x) = a * sm l g := by
  induction l with
  | nil => rw [sm_nil, sm_nil]; grind
  | cons x l ih => rw [sm_cons, sm_cons, ih]; grind
theorem sm_congr {α : Type} {l : List α} {g h : α → F} (e : ∀ x ∈ l, g x = h x) : sm l g = sm l h := by
  induction l with
  | nil => rfl
  | cons x l ih => rw [sm_cons, sm_cons, e x (List.mem_cons_self), ih fun y hy => e y (List.mem_cons_of_mem _ hy)]
theorem sm_zero {α : Type} {l : List α} {g : α → F} (e : ∀ x ∈ l, g x = 0) : sm l g = 0 := by
  induction l with
  | nil => rfl
  | cons x l ih => rw [sm_cons, e x (List.mem_cons_self), ih fun y hy => e y (List.mem_cons_of_mem _ hy)]; grind
theorem sm_map {α β : Type} (l : List α) (f : α → β) (g : β → F) : sm (l.map f) g = sm l (fun x => g (f x)) := by
  induction l with
  | nil => rfl
  | cons x l ih => rw [List.map_cons, sm_cons, sm_cons, ih]
theorem sm_perm {α : Type} {l l' : List α} (g : α → F) (h : l.Perm l') : sm l g = sm l' g := by
  induction h with
  | nil => rfl
  | cons x _ ih => rw [sm_cons, sm_cons, ih]
  | swap x y l => rw [sm_cons, sm_cons, sm_cons, sm_cons]; grind
  | trans _ _ a b => rw [a, b]
theorem sm_split {α : Type} (l : List α) (p : α → Bool) (g : α → F) : sm l g = sm (l.filter p) g + sm (l.filter fun x => !p x) g := by
  induction l with
  | nil => rw [List.filter_nil, List.filter_nil, sm_nil]; grind
  | cons x l ih =>
    rw [sm_cons, ih, List.filter_cons, List.filter_cons]
    cases h : p x <;> simp [sm_cons] <;> grind
theorem sm_one {α : Type} {l : List α} {g : α → F} {x : α} (nd : l.Nodup) (hx : x ∈ l) (e : ∀ y ∈ l, y ≠ x → g y = 0) : sm l g = g x := by
  induction l with
  | nil => cases hx
  | cons y l ih =>
    rw [List.nodup_cons] at nd
    rw [sm_cons]
    rcases List.mem_cons.mp hx with rfl | hx
    · rw [sm_zero fun z hz => e z (List.mem_cons_of_mem _ hz) fun q => nd.1 (q ▸ hz)]; grind
    · rw [ih nd.2 hx fun z hz => e z (List.mem_cons_of_mem _ hz), e y List.mem_cons_self fun q => nd.1 (q ▸ hx)]; grind
end sums

section
variable {F : Type} [CommRing F] {n : Nat}
abbrev Vec (n : Nat) (F : Type) := Fin n → F

/-! ### spans -/
inductive Sp (R : Vec n F → Prop) : Vec n F → Prop
  | zero : Sp R (fun _ => 0)
  | step {v r : Vec n F} (a : F) : Sp R v → R r → Sp R (fun i => v i + a * r i)
variable {R S : Vec n F → Prop} {v w r : Vec n F}
theorem Sp.mem (h : R r) : Sp R r := by
  have e : (fun i => (0 : F) + 1 * r i) = r := by funext i; grind
  rw [← e]
  exact Sp.step 1 .zero h
theorem Sp.add (hv : Sp R v) (hw : Sp R w) : Sp R (fun i => v i + w i) := by
  induction hw with
  | zero =>
    have e : (fun i => v i + 0) = v := by funext i; grind
    rw [e]; exact hv
  | @step w r a _ hr ih =>
    have e : (fun i => v i + (w i + a * r i)) = (fun i => (v i + w i) + a * r i) := by funext i; grind
    rw [e]; exact Sp.step a ih hr
theorem Sp.smul (a : F) (hv : Sp R v) : Sp R (fun i => a * v i) := by
  induction hv with
  | zero =>
    have e : (fun _ : Fin n => a * (0 : F)) = fun _ => 0 := by funext i; grind
    rw [e]; exact .zero
  | @step w r b _ hr ih =>
    have e : (fun i => a * (w i + b * r i)) = (fun i => a * w i + (a * b) * r i) := by funext i; grind
    rw [e]; exact Sp.step _ ih hr
theorem Sp.sub (hv : Sp R v) (hw : Sp R w) : Sp R (fun i => v i - w i) := by
  have e : (fun i => v i - w i) = (fun i => v i + (-1) * w i) := by funext i; grind
  rw [e]; exact hv.add (hw.smul _)
theorem Sp.of (h : ∀ r, R r → Sp S r) (hv : Sp R v) : Sp S v := by
  induction hv with
  | zero => exact .zero
  | step a _ hr ih => exact ih.add ((h _ hr).smul a)
theorem Sp.mono (h : ∀ r, R r → S r) (hv : Sp R v) : Sp S v := hv.of fun r hr => .mem (h r hr)
theorem Sp.sm {α : Type} (l : List α) (c : α → F) (k : α → Vec n F) (h : ∀ x ∈ l, Sp R (k x)) : Sp R (fun i => PcLin.sm l fun x => c x * k x i) := by
  induction l with
  | nil => exact .zero
  | cons x l ih => exact ((h x List.mem_cons_self).smul (c x)).add (ih fun y hy => h y (List.mem_cons_of_mem _ hy))
/-- the span of a list's rows -/
abbrev SpL (l : List (Vec n F)) : Vec n F → Prop := Sp (· ∈ l)
theorem spl_append {l m : List (Vec n F)} : SpL (l ++ m) v ↔ ∃ a b, SpL l a ∧ SpL m b ∧ v = fun i => a i + b i := by
  constructor
  · intro h
    induction h with
    | zero => exact ⟨_, _, .zero, .zero, by funext i; grind⟩
    | @step v r c _ hr ih =>
      obtain ⟨a, b, ha, hb, rfl⟩ := ih
      rcases List.mem_append.mp hr with hr | hr
      · exact ⟨_, _, .step c ha hr, hb, by funext i; grind⟩
      · exact ⟨_, _, ha, .step c hb hr, by funext i; grind⟩
  · rintro ⟨a, b, ha, hb, rfl⟩
    exact (ha.mono fun r hr => List.mem_append_left _ hr).add (hb.mono fun r hr => List.mem_append_right _ hr)

/-! ### reduced tables: rows with their pivots -/
abbrev Tab (n : Nat) (F : Type) := List (Vec n F × Fin n)
def Tab.rows (L : Tab n F) : List (Vec n F) := L.map (·.1)
def Tab.pivs (L : Tab n F) : List (Fin n) := L.map (·.2)
structure Rr (L : Tab n F) : Prop where
  one : ∀ s ∈ L, s.1 s.2 = 1 ∧ ∀ j, j < s.2 → s.1 j = 0
  two : L.Pairwise fun s u => s.2 < u.2 ∧ s.1 u.2 = 0 ∧ u.1 s.2 = 0
theorem Rr.nil : Rr ([] : Tab n F) := ⟨(fun _ h => by cases h), List.Pairwise.nil⟩
theorem Rr.tail {s : Vec n F × Fin n} {L : Tab n F} (h : Rr (s :: L)) : Rr L := ⟨fun u hu => h.one u (List.mem_cons_of_mem _ hu), (List.pairwise_cons.mp h.two).2⟩
theorem Rr.head {s : Vec n F × Fin n} {L : Tab n F} (h : Rr (s :: L)) : ∀ u ∈ L, s.2 < u.2 ∧ s.1 u.2 = 0 ∧ u.1 s.2 = 0 := (List.pairwise_cons.mp h.two).1
theorem Rr.snoc {L : Tab n F} {t : Vec n F} {q : Fin n} (h : Rr L) (h1 : t q = 1) (h2 : ∀ j, j < q → t j = 0) (h3 : ∀ s ∈ L, s.2 < q ∧ s.1 q = 0) : Rr (L ++ [(t, q)]) := by
  refine ⟨fun s hs => ?_, List.pairwise_append.mpr ⟨h.two, List.pairwise_singleton _ _, fun s hs u hu => ?_⟩⟩
  · rcases List.mem_append.mp hs with hs | hs
    · exact h.one s hs
    · rw [List.mem_singleton] at hs; subst hs; exact ⟨h1, h2⟩
  · rw [List.mem_singleton] at hu; subst hu
    exact ⟨(h3 s hs).1, (h3 s hs).2, h2 _ (h3 s hs).1⟩
theorem Rr.init {L M : Tab n F} (h : Rr (L ++ M)) : Rr L := ⟨fun s hs => h.one s (List.mem_append_left _ hs), (List.pairwise_append.mp h.two).1⟩
def lc : Tab n F → Vec n F → Vec n F
  | [], _ => fun _ => 0
  | s :: L, c => fun j => c s.2 * s.1 j + lc L c j
theorem lc_sm : ∀ (L : Tab n F) (c : Vec n F) (j : Fin n), lc L c j = sm L fun s => c s.2 * s.1 j
  | [], _, _ => rfl
  | s :: L, c, j => by show c s.2 * s.1 j + lc L c j = _; rw [lc_sm L c j, sm_cons]
theorem lc_in (L : Tab n F) (c : Vec n F) : SpL (Tab.rows L) (lc L c) := by
  have h := Sp.sm (R := (· ∈ Tab.rows L)) L (fun s => c s.2) (fun s => s.1) fun s hs => .mem (List.mem_map.mpr ⟨s, hs, rfl⟩)
  have e : (fun i => sm L fun s => c s.2 * s.1 i) = lc L c := by funext i; rw [lc_sm]
  rw [e] at h; exact h
theorem lc_piv {L : Tab n F} (h : Rr L) (c : Vec n F) : ∀ s ∈ L, lc L c s.2 = c s.2 := by
  induction L with
  | nil => intro s hs; cases hs
  | cons s0 L ih =>
    intro s hs
    show c s0.2 * s0.1 s.2 + lc L c s.2 = c s.2
    rcases List.mem_cons.mp hs with rfl | hs
    · have z : lc L c s.2 = 0 := by
        rw [lc_sm]
        exact sm_zero fun u hu => by rw [(h.head u hu).2.2]; grind
      rw [(h.one s List.mem_cons_self).1, z]; grind
    · rw [(h.head s hs).2.1, ih h.tail s hs]; grind
theorem Rr.at {L : Tab n F} (h : Rr L) {s u : Vec n F × Fin n} (hs : s ∈ L) (hu : u ∈ L) (ne : s.2 ≠ u.2) : s.1 u.2 = 0 := by
  induction L with
  | nil => cases hs
  | cons x L ih =>
    rcases List.mem_cons.mp hs with rfl | hs'
    · rcases List.mem_cons.mp hu with rfl | hu'
      · exact absurd rfl ne
      · exact (h.head u hu').2.1
    · rcases List.mem_cons.mp hu with rfl | hu'
      · exact (h.head s hs').2.2
      · exact ih h.tail hs' hu'
theorem Rr.inj {L : Tab n F} (h : Rr L) {s u : Vec n F × Fin n} (hs : s ∈ L) (hu : u ∈ L) (e : s.2 = u.2) : s = u := by
  induction L with
  | nil => cases hs
  | cons x L ih =>
    rcases List.mem_cons.mp hs with rfl | hs'
    · rcases List.mem_cons.mp hu with rfl | hu'
      · rfl
      · have := (h.head u hu').1
        rw [e] at this
        exact absurd this (Nat.lt_irrefl _)
    · rcases List.mem_cons.mp hu with rfl | hu'
      · have := (h.head s hs').1
        rw [e] at this
        exact absurd this (Nat.lt_irrefl _)
      · exact ih h.tail hs' hu'
theorem Rr.nodup {L : Tab n F} (h : Rr L) : (Tab.pivs L).Nodup := by
  unfold Tab.pivs List.Nodup
  rw [List.pairwise_map]
  exact h.two.imp fun q e => absurd q.1 (by rw [e]; exact Nat.lt_irrefl _)
/-- a row of the span is told by its items at the pivots -/
theorem expand {L : Tab n F} (h : Rr L) (hv : SpL (Tab.rows L) v) : v = lc L v := by
  induction hv with
  | zero =>
    funext j
    rw [lc_sm]
    exact (sm_zero fun u hu => by grind).symm
  | @step v r a _ hr ih =>
    obtain ⟨s, hs, rfl⟩ := List.mem_map.mp hr
    have e1 : s.1 = lc L s.1 := by
      funext j
      rw [lc_sm]
      have nd : L.Nodup := List.Pairwise.imp (fun {a b} (q : a.2 < b.2 ∧ _) e => absurd q.1 (by rw [e]; exact Nat.lt_irrefl _)) h.two
      rw [sm_one (x := s) nd hs fun u hu ne => by rw [h.at hs hu fun e => ne (h.inj hs hu e).symm]; grind, (h.one s hs).1]
      grind
    funext j
    have e2 := congrFun ih j
    have e3 := congrFun e1 j
    rw [lc_sm] at e2 e3 ⊢
    rw [show (fun s_1 : Vec n F × Fin n => (v s_1.2 + a * s.1 s_1.2) * s_1.1 j) = fun s_1 => v s_1.2 * s_1.1 j + a * (s.1 s_1.2 * s_1.1 j) from by funext z; grind, sm_add, sm_mul, ← e2, ← e3]
theorem zero_of {L : Tab n F} (h : Rr L) (hv : SpL (Tab.rows L) v) (z : ∀ s ∈ L, v s.2 = 0) : v = fun _ => 0 := by
  rw [expand h hv]
  funext j
  rw [lc_sm]
  exact sm_zero fun s hs => by rw [z s hs]; grind

/-! ### a space has one reduced table -/
theorem piv_iff (h01 : (1 : F) ≠ 0) {L : Tab n F} (h : Rr L) (q : Fin n) : q ∈ Tab.pivs L ↔ ∃ v, SpL (Tab.rows L) v ∧ v q = 1 ∧ ∀ j, j < q → v j = 0 := by
  constructor
  · intro hq
    obtain ⟨s, hs, rfl⟩ := List.mem_map.mp hq
    exact ⟨s.1, .mem (List.mem_map.mpr ⟨s, hs, rfl⟩), h.one s hs⟩
  · rintro ⟨v, hv, h1, h2⟩
    apply Classical.byContradiction
    intro no
    have e := congrFun (expand h hv) q
    rw [lc_sm, sm_zero fun s hs => ?_, h1] at e
    · exact h01 e
    · rcases Nat.lt_trichotomy s.2.val q.val with c | c | c
      · rw [h2 _ c]; grind
      · exact absurd (List.mem_map.mpr ⟨s, hs, Fin.eq_of_val_eq c⟩) no
      · rw [(h.one s hs).2 q c]; grind
theorem sorted_ext {l m : List (Fin n)} (hl : l.Pairwise (· < ·)) (hm : m.Pairwise (· < ·)) (h : ∀ x, x ∈ l ↔ x ∈ m) : l = m := by
  have nl : l.Nodup := hl.imp fun q e => absurd q (by rw [e]; exact Nat.lt_irrefl _)
  have nm : m.Nodup := hm.imp fun q e => absurd q (by rw [e]; exact Nat.lt_irrefl _)
  exact List.Perm.eq_of_pairwise (fun a b _ _ h1 h2 => absurd (Nat.lt_trans h1 h2) (Nat.lt_irrefl _)) hl hm ((List.perm_ext_iff_of_nodup nl nm).mpr h)
theorem tab_ext : ∀ {L M : Tab n F}, Tab.pivs L = Tab.pivs M → (∀ s ∈ L, ∀ u ∈ M, s.2 = u.2 → s.1 = u.1) → L = M
  | [], [], _, _ => rfl
  | [], _ :: _, e, _ => nomatch e
  | _ :: _, [], e, _ => nomatch e
  | s :: L, u :: M, e, h => by
    have e1 : s.2 = u.2 := (List.cons.inj e).1
    have e2 := h s List.mem_cons_self u List.mem_cons_self e1
    have e3 : s = u := Prod.ext e2 e1
    rw [e3, tab_ext (List.cons.inj e).2 fun a ha b hb => h a (List.mem_cons_of_mem _ ha) b (List.mem_cons_of_mem _ hb)]
theorem Rr.sorted {L : Tab n F} (h : Rr L) : (Tab.pivs L).Pairwise (· < ·) := by
  unfold Tab.pivs
  rw [List.pairwise_map]
  exact h.two.imp fun q => q.1
theorem unique (h01 : (1 : F) ≠ 0) {L M : Tab n F} (hL : Rr L) (hM : Rr M) (e : ∀ v, SpL (Tab.rows L) v ↔ SpL (Tab.rows M) v) : L = M := by
  have ep : Tab.pivs L = Tab.pivs M := sorted_ext hL.sorted hM.sorted fun q => by
    rw [piv_iff h01 hL, piv_iff h01 hM]
    constructor <;> rintro ⟨v, a, b⟩
    · exact ⟨v, (e v).mp a, b⟩
    · exact ⟨v, (e v).mpr a, b⟩
  refine tab_ext ep fun s hs u hu esu => ?_
  have hd : SpL (Tab.rows M) (fun i => s.1 i - u.1 i) := Sp.sub ((e _).mp (.mem (List.mem_map.mpr ⟨s, hs, rfl⟩))) (.mem (List.mem_map.mpr ⟨u, hu, rfl⟩))
  have z := zero_of hM hd fun x hx => by
    have hx' : x.2 ∈ Tab.pivs L := by rw [ep]; exact List.mem_map.mpr ⟨x, hx, rfl⟩
    obtain ⟨y, hy, ey⟩ := List.mem_map.mp hx'
    have ey : y.2 = x.2 := ey
    by_cases c : s.2 = x.2
    · show s.1 x.2 - u.1 x.2 = 0
      rw [← c, (hL.one s hs).1, esu, (hM.one u hu).1]; grind
    · show s.1 x.2 - u.1 x.2 = 0
      rw [hM.at hu hx fun q => c (esu.trans q), ← ey, hL.at hs hy fun q => c (q.trans ey)]; grind
  funext i
  have := congrFun z i
  grind

/-! ### products, and what is at right angles -/
def dt (v w : Vec n F) : F := sm (List.finRange n) fun i => v i * w i
theorem dt_comm (v w : Vec n F) : dt v w = dt w v := sm_congr fun i _ => by grind
theorem dt_step (v r w : Vec n F) (a : F) : dt (fun i => v i + a * r i) w = dt v w + a * dt r w := by
  unfold dt
  rw [← sm_mul, ← sm_add]
  exact sm_congr fun i _ => by grind
def Perp (R : Vec n F → Prop) (w : Vec n F) : Prop := ∀ r, R r → dt r w = 0
theorem perp_sp : Perp (Sp R) w ↔ Perp R w := by
  constructor
  · exact fun h r hr => h r (.mem hr)
  · intro h r hr
    induction hr with
    | zero => exact sm_zero fun i _ => by grind
    | step a _ hr ih => rw [dt_step, ih, h _ hr]; grind
theorem perp_congr (e : ∀ v, R v ↔ S v) : Perp R w ↔ Perp S w := ⟨fun h r hr => h r ((e r).mpr hr), fun h r hr => h r ((e r).mp hr)⟩
/-- the row of the kernel for a free place -/
structure IsK (L : Tab n F) (f : Fin n) (k : Vec n F) : Prop where
  one : k f = 1
  free : ∀ j, j ∉ Tab.pivs L → j ≠ f → k j = 0
  piv : ∀ s ∈ L, k s.2 = -(s.1 f)
def inP (L : Tab n F) (j : Fin n) : Bool := decide (j ∈ Tab.pivs L)
def frees (L : Tab n F) : List (Fin n) := (List.finRange n).filter fun j => !inP L j
theorem mem_frees {L : Tab n F} {j : Fin n} : j ∈ frees L ↔ j ∉ Tab.pivs L := by
  unfold frees inP
  rw [List.mem_filter]
  simp [List.mem_finRange]
theorem frees_nodup (L : Tab n F) : (frees L).Nodup := (List.nodup_finRange n).filter _
theorem pivs_sum {L : Tab n F} (h : Rr L) (g : Fin n → F) : sm ((List.finRange n).filter (inP L)) g = sm L fun s => g s.2 := by
  have p : ((List.finRange n).filter (inP L)).Perm (Tab.pivs L) := (List.perm_ext_iff_of_nodup ((List.nodup_finRange n).filter _) h.nodup).mpr fun j => by
    rw [List.mem_filter]
    unfold inP
    simp [List.mem_finRange]
  rw [sm_perm g p]
  unfold Tab.pivs
  rw [sm_map]
theorem dt_split {L : Tab n F} (h : Rr L) (v w : Vec n F) : dt v w = sm L (fun s => v s.2 * w s.2) + sm (frees L) (fun j => v j * w j) := by
  unfold dt
  rw [sm_split _ (inP L), pivs_sum h fun i => v i * w i]
  rfl
theorem nodupL {L : Tab n F} (h : Rr L) : L.Nodup := List.Pairwise.imp (fun {a b} (q : a.2 < b.2 ∧ _) e => absurd q.1 (by rw [e]; exact Nat.lt_irrefl _)) h.two
theorem dt_row {L : Tab n F} (h : Rr L) {s : Vec n F × Fin n} (hs : s ∈ L) (w : Vec n F) : dt s.1 w = w s.2 + sm (frees L) (fun j => s.1 j * w j) := by
  rw [dt_split h, sm_one (x := s) (nodupL h) hs fun u hu ne => by rw [h.at hs hu fun e => ne (h.inj hs hu e).symm]; grind, (h.one s hs).1]
  grind
theorem isk_perp {L : Tab n F} (h : Rr L) {f : Fin n} {k : Vec n F} (hf : f ∉ Tab.pivs L) (hk : IsK L f k) : Perp (· ∈ Tab.rows L) k := by
  intro r hr
  obtain ⟨s, hs, rfl⟩ := List.mem_map.mp hr
  rw [dt_row h hs, sm_one (x := f) (frees_nodup L) (mem_frees.mpr hf) fun j hj ne => by rw [hk.free j (mem_frees.mp hj) ne]; grind, hk.one, hk.piv s hs]
  grind
theorem perp_lc {L : Tab n F} (h : Rr L) {k : Fin n → Vec n F} (hk : ∀ f, f ∉ Tab.pivs L → IsK L f (k f)) (hv : Perp (· ∈ Tab.rows L) v) : v = fun i => sm (frees L) fun f => v f * k f i := by
  funext i
  by_cases c : i ∈ Tab.pivs L
  · obtain ⟨s, hs, e⟩ := List.mem_map.mp c
    have e : s.2 = i := e
    subst e
    have q := hv s.1 (List.mem_map.mpr ⟨s, hs, rfl⟩)
    rw [dt_row h hs] at q
    have r : sm (frees L) (fun f => v f * k f s.2) = sm (frees L) (fun j => (-1) * (s.1 j * v j)) := sm_congr fun f hf => by rw [(hk f (mem_frees.mp hf)).piv s hs]; grind
    rw [r, sm_mul]
    grind
  · rw [sm_one (x := i) (frees_nodup L) (mem_frees.mpr c) fun f hf ne => by rw [(hk f (mem_frees.mp hf)).free i c (Ne.symm ne)]; grind, (hk i c).one]
    grind
/-- the rows told for the free places span what is at right angles to the table -/
theorem kern_span {L : Tab n F} (h : Rr L) {k : Fin n → Vec n F} (hk : ∀ f, f ∉ Tab.pivs L → IsK L f (k f)) : Sp (fun r => ∃ f, f ∉ Tab.pivs L ∧ r = k f) v ↔ Perp (· ∈ Tab.rows L) v := by
  constructor
  · intro hv
    induction hv with
    | zero => exact fun r _ => sm_zero fun i _ => by grind
    | step a _ hr ih =>
      obtain ⟨f, hf, rfl⟩ := hr
      intro r hr
      rw [dt_comm, dt_step, dt_comm, ih r hr, dt_comm, isk_perp h hf (hk f hf) r hr]
      grind
  · intro hv
    rw [perp_lc h hk hv]
    exact Sp.sm _ _ _ fun f hf => .mem ⟨f, mem_frees.mp hf, rfl⟩
/-- what is at right angles to these is in the table's span -/
theorem perp_perp {L : Tab n F} (h : Rr L) {k : Fin n → Vec n F} (hk : ∀ f, f ∉ Tab.pivs L → IsK L f (k f)) : Perp (Perp (· ∈ Tab.rows L)) v ↔ SpL (Tab.rows L) v := by
  constructor
  · intro hv
    have e : v = lc L v := by
      funext j
      by_cases c : j ∈ Tab.pivs L
      · obtain ⟨s, hs, e⟩ := List.mem_map.mp c
        have e : s.2 = j := e
        subst e
        rw [lc_piv h _ s hs]
      · have q := hv (k j) (isk_perp h c (hk j c))
        rw [dt_split h, sm_one (x := j) (frees_nodup L) (mem_frees.mpr c) fun f hf ne => by rw [(hk j c).free f (mem_frees.mp hf) ne]; grind, (hk j c).one] at q
        rw [lc_sm]
        have r : sm L (fun s => k j s.2 * v s.2) = sm L (fun s => (-1) * (v s.2 * s.1 j)) := sm_congr fun s hs => by rw [(hk j c).piv s hs]; grind
        rw [r, sm_mul] at q
        grind
    rw [e]
    exact lc_in L v
  · intro hv r hr
    rw [dt_comm]
    exact (perp_sp.mpr (fun x hx => by exact hr x hx)) v hv |> fun q => by rw [dt_comm]; exact (dt_comm _ _).trans q
end
end PcLin
/-! Spaces as lists of their rows; the dimension formula by counting. -/
set_option linter.all false
namespace PcLin
open Lean.Grind
section
variable {F : Type} [CommRing F] {n : Nat} {v w r : Vec n F} {S : Vec n F → Prop}
/-- a list of all rows of a space, each once -/
structure En (l : List (Vec n F)) (S : Vec n F → Prop) : Prop where
  nd : l.Nodup
  mem : ∀ v, v ∈ l ↔ S v
def ext (els : List F) (l : List (Vec n F)) (r : Vec n F) : List (Vec n F) := l.flatMap fun w => els.map fun a => fun i => w i + a * r i
theorem mem_ext {els : List F} (full : ∀ a, a ∈ els) {l : List (Vec n F)} : v ∈ ext els l r ↔ ∃ w ∈ l, ∃ a, v = fun i => w i + a * r i := by
  unfold ext
  rw [List.mem_flatMap]
  constructor
  · rintro ⟨w, hw, h⟩
    obtain ⟨a, _, rfl⟩ := List.mem_map.mp h
    exact ⟨w, hw, a, rfl⟩
  · rintro ⟨w, hw, a, rfl⟩
    exact ⟨w, hw, List.mem_map.mpr ⟨a, full a, rfl⟩⟩
theorem nodup_map_on {α β : Type} {f : α → β} : ∀ {l : List α}, (∀ x ∈ l, ∀ y ∈ l, f x = f y → x = y) → l.Nodup → (l.map f).Nodup
  | [], _, _ => List.nodup_nil
  | x :: l, h, nd => by
    rw [List.nodup_cons] at nd
    rw [List.map_cons, List.nodup_cons]
    refine ⟨fun hx => ?_, nodup_map_on (fun a ha b hb => h a (List.mem_cons_of_mem _ ha) b (List.mem_cons_of_mem _ hb)) nd.2⟩
    obtain ⟨y, hy, e⟩ := List.mem_map.mp hx
    have := h y (List.mem_cons_of_mem _ hy) x List.mem_cons_self e
    exact nd.1 (this ▸ hy)
theorem nodup_flatMap_on {α β : Type} {f : α → List β} : ∀ {l : List α}, (∀ x ∈ l, (f x).Nodup) → (∀ x ∈ l, ∀ y ∈ l, ∀ b, b ∈ f x → b ∈ f y → x = y) → l.Nodup → (l.flatMap f).Nodup
  | [], _, _, _ => List.nodup_nil
  | x :: l, h1, h2, nd => by
    rw [List.nodup_cons] at nd
    rw [List.flatMap_cons, List.nodup_append]
    refine ⟨h1 x List.mem_cons_self, nodup_flatMap_on (fun a ha => h1 a (List.mem_cons_of_mem _ ha)) (fun a ha b hb => h2 a (List.mem_cons_of_mem _ ha) b (List.mem_cons_of_mem _ hb)) nd.2, fun b hb c hc e => ?_⟩
    subst e
    obtain ⟨y, hy, hc⟩ := List.mem_flatMap.mp hc
    have := h2 x List.mem_cons_self y (List.mem_cons_of_mem _ hy) b hb hc
    exact nd.1 (this ▸ hy)
theorem ext_len {els : List F} {l : List (Vec n F)} : (ext els l r).length = l.length * els.length := by
  unfold ext
  induction l with
  | nil => simp
  | cons w l ih => rw [List.flatMap_cons, List.length_append, ih, List.length_map, List.length_cons, Nat.add_mul, Nat.one_mul, Nat.add_comm]
theorem spl_snoc {R : List (Vec n F)} : SpL (R ++ [r]) v ↔ ∃ w, SpL R w ∧ ∃ a, v = fun i => w i + a * r i := by
  rw [spl_append]
  constructor
  · rintro ⟨a, b, ha, hb, rfl⟩
    have : ∃ c : F, b = fun i => c * r i := by
      clear ha
      induction hb with
      | zero => exact ⟨0, by funext i; grind⟩
      | @step v s c _ hr ih =>
        obtain ⟨d, rfl⟩ := ih
        rw [List.mem_singleton] at hr
        subst hr
        exact ⟨d + c, by funext i; grind⟩
    obtain ⟨c, rfl⟩ := this
    exact ⟨a, ha, c, rfl⟩
  · rintro ⟨w, hw, a, rfl⟩
    exact ⟨w, fun i => a * r i, hw, (Sp.mem (List.mem_singleton.mpr rfl)).smul a, rfl⟩
theorem en_ext (inv : ∀ a : F, a ≠ 0 → ∃ b, a * b = 1) {els : List F} (en : els.Nodup) (full : ∀ a, a ∈ els) {l R : List (Vec n F)} (h : En l (SpL R)) (no : ¬ SpL R r) : En (ext els l r) (SpL (R ++ [r])) := by
  have key : ∀ w w' a a', SpL R w → SpL R w' → (fun i => w i + a * r i) = (fun i => w' i + a' * r i) → a = a' := by
    intro w w' a a' hw hw' e
    apply Classical.byContradiction
    intro ne
    obtain ⟨b, hb⟩ := inv (a - a') fun z => ne (by grind)
    refine no ?_
    have q : r = fun i => b * (w' i - w i) := by
      funext i
      have := congrFun e i
      grind
    rw [q]
    exact (hw'.sub hw).smul b
  refine ⟨?_, fun v => ?_⟩
  · unfold ext
    refine nodup_flatMap_on (fun w hw => ?_) (fun w hw w' hw' b hb hb' => ?_) h.nd
    · exact nodup_map_on (fun a _ a' _ e => key w w a a' ((h.mem w).mp hw) ((h.mem w).mp hw) e) en
    · obtain ⟨a, _, rfl⟩ := List.mem_map.mp hb
      obtain ⟨a', _, e⟩ := List.mem_map.mp hb'
      have := key w' w a' a ((h.mem w').mp hw') ((h.mem w).mp hw) e
      subst this
      funext i
      have := congrFun e i
      grind
  · rw [mem_ext full, spl_snoc]
    constructor
    · rintro ⟨w, hw, a, rfl⟩; exact ⟨w, (h.mem w).mp hw, a, rfl⟩
    · rintro ⟨w, hw, a, rfl⟩; exact ⟨w, (h.mem w).mpr hw, a, rfl⟩
theorem spl_snoc_in {R : List (Vec n F)} (h : SpL R r) : SpL (R ++ [r]) v ↔ SpL R v :=
  ⟨fun hv => hv.of fun s hs => by
    rcases List.mem_append.mp hs with hs | hs
    · exact .mem hs
    · rw [List.mem_singleton] at hs; subst hs; exact h, fun hv => hv.mono fun s hs => List.mem_append_left _ hs⟩
theorem en_nil : En [fun _ => (0 : F)] (SpL ([] : List (Vec n F))) := by
  refine ⟨by simp, fun v => ?_⟩
  rw [List.mem_singleton]
  constructor
  · rintro rfl; exact .zero
  · intro h
    cases h with
    | zero => rfl
    | step a _ hr => exact nomatch hr
/-- in a reduced table no row is in the span of those before it -/
theorem rr_no (h01 : (1 : F) ≠ 0) {L : Tab n F} {s : Vec n F × Fin n} (h : Rr (L ++ [s])) : ¬ SpL (Tab.rows L) s.1 := by
  intro hs
  have e := congrFun (expand h.init hs) s.2
  rw [(h.one s (List.mem_append_right _ (List.mem_singleton.mpr rfl))).1, lc_sm, sm_zero fun u hu => ?_] at e
  · exact h01 e
  · have := ((List.pairwise_append.mp h.two).2.2 u hu s (List.mem_singleton.mpr rfl)).2.1
    rw [this]; grind
def enT (els : List F) (R : List (Vec n F)) : List (Vec n F) := R.foldl (ext els) [fun _ => 0]
theorem enT_snoc (els : List F) (R : List (Vec n F)) (r : Vec n F) : enT els (R ++ [r]) = ext els (enT els R) r := by
  unfold enT; rw [List.foldl_append]; rfl
theorem snoc_ind {α : Type} {P : List α → Prop} (h0 : P []) (h1 : ∀ l x, P l → P (l ++ [x])) (l : List α) : P l := by
  rw [← List.reverse_reverse (as := l)]
  induction l.reverse with
  | nil => exact h0
  | cons x m ih => rw [List.reverse_cons]; exact h1 _ _ ih
theorem rows_snoc (L : Tab n F) (s : Vec n F × Fin n) : Tab.rows (L ++ [s]) = Tab.rows L ++ [s.1] := by unfold Tab.rows; rw [List.map_append]; rfl
theorem en_rr (inv : ∀ a : F, a ≠ 0 → ∃ b, a * b = 1) (h01 : (1 : F) ≠ 0) {els : List F} (en : els.Nodup) (full : ∀ a, a ∈ els) (L : Tab n F) : Rr L → En (enT els (Tab.rows L)) (SpL (Tab.rows L)) ∧ (enT els (Tab.rows L)).length = els.length ^ L.length := by
  induction L using snoc_ind with
  | h0 => exact fun _ => ⟨en_nil, rfl⟩
  | h1 L s ih =>
    intro h
    obtain ⟨a, b⟩ := ih h.init
    rw [rows_snoc, enT_snoc]
    refine ⟨en_ext inv en full a (rr_no h01 h), ?_⟩
    rw [ext_len, b, List.length_append, Nat.pow_add]
    simp

/-! ### counting -/
def cnt {α : Type} (l : List α) (f : α → Nat) : Nat := (l.map f).sum
theorem cnt_const {α : Type} {l : List α} {f : α → Nat} {k : Nat} (h : ∀ x ∈ l, f x = k) : cnt l f = l.length * k := by
  unfold cnt
  induction l with
  | nil => simp
  | cons x l ih =>
    rw [List.map_cons, List.sum_cons, h x List.mem_cons_self, ih fun y hy => h y (List.mem_cons_of_mem _ hy), List.length_cons, Nat.add_mul, Nat.one_mul, Nat.add_comm]
theorem cnt_swap {α β : Type} (l : List α) (m : List β) (P : α → β → Bool) : cnt l (fun x => m.countP fun y => P x y) = cnt m (fun y => l.countP fun x => P x y) := by
  induction l with
  | nil =>
    have : cnt m (fun y => ([] : List α).countP fun x => P x y) = m.length * 0 := cnt_const fun y _ => rfl
    rw [this]; rfl
  | cons x l ih =>
    have e : cnt (x :: l) (fun x => m.countP fun y => P x y) = m.countP (fun y => P x y) + cnt l (fun x => m.countP fun y => P x y) := rfl
    rw [e, ih]
    clear e ih
    induction m with
    | nil => rfl
    | cons y m ih =>
      have e1 : cnt (y :: m) (fun y => l.countP fun x => P x y) = l.countP (fun x => P x y) + cnt m (fun y => l.countP fun x => P x y) := rfl
      have e2 : cnt (y :: m) (fun y => (x :: l).countP fun x => P x y) = (x :: l).countP (fun x => P x y) + cnt m (fun y => (x :: l).countP fun x => P x y) := rfl
      rw [e1, e2, ← ih, List.countP_cons, List.countP_cons]
      omega
theorem count_shift {l m : List (Vec n F)} {A T : Vec n F → Prop} (hl : En l A) (hm : En m T) (P : Vec n F → Bool) (f g : Vec n F → Vec n F) (hf : ∀ v, T v → A (f v) ∧ P (f v) = true) (hg : ∀ v, A v → P v = true → T (g v)) (fg : ∀ v, f (g v) = v) (gf : ∀ v, g (f v) = v) : l.countP P = m.length := by
  rw [List.countP_eq_length_filter]
  have p : (l.filter P).Perm (m.map f) := (List.perm_ext_iff_of_nodup (hl.nd.filter _) (nodup_map_on (fun a _ b _ e => by rw [← gf a, ← gf b, e]) hm.nd)).mpr fun v => by
    rw [List.mem_filter, List.mem_map, hl.mem]
    constructor
    · rintro ⟨a, b⟩; exact ⟨g v, (hm.mem _).mpr (hg v a b), fg v⟩
    · rintro ⟨u, hu, rfl⟩; exact hf u ((hm.mem u).mp hu)
  rw [p.length_eq, List.length_map]
theorem dims {A B : List (Vec n F)} {lA lB lW lP : List (Vec n F)} (hA : En lA (SpL A)) (hB : En lB (SpL B)) (hW : En lW (SpL (A ++ B))) (hP : En lP fun v => SpL A v ∧ SpL B v) : lW.length * lP.length = lA.length * lB.length := by
  have dec : DecidablePred (SpL B) := fun v => Classical.propDecidable _
  have h := cnt_swap lW lA fun s a => decide (SpL B fun i => s i - a i)
  rw [cnt_const (k := lP.length), cnt_const (k := lB.length)] at h
  · exact h
  · intro a ha
    have ha := (hA.mem a).mp ha
    refine count_shift hW hB _ (fun v i => a i + v i) (fun v i => v i - a i) (fun v hv => ⟨spl_append.mpr ⟨a, v, ha, hv, rfl⟩, ?_⟩) (fun v _ hv => ?_) (fun v => by funext i; grind) (fun v => by funext i; grind)
    · rw [decide_eq_true_eq]
      rw [show (fun i => a i + v i - a i) = v from by funext i; grind]
      exact hv
    · rw [decide_eq_true_eq] at hv
      exact hv
  · intro s hs
    obtain ⟨a, b, ha, hb, rfl⟩ := spl_append.mp ((hW.mem s).mp hs)
    refine count_shift hA hP _ (fun v i => a i + v i) (fun v i => v i - a i) (fun v hv => ⟨ha.add hv.1, ?_⟩) (fun v h1 h2 => ⟨h1.sub ha, ?_⟩) (fun v => by funext i; grind) (fun v => by funext i; grind)
    · rw [decide_eq_true_eq]
      rw [show (fun i => a i + b i - (a i + v i)) = fun i => b i - v i from by funext i; grind]
      exact hb.sub hv.2
    · rw [decide_eq_true_eq] at h2
      rw [show (fun i => v i - a i) = fun i => b i - (a i + b i - v i) from by funext i; grind]
      exact hb.sub h2
end
end PcLin
/-! The program's functions over lists of ints (mirrors), and what they are over the rows of PcLin. -/
set_option linter.all false
namespace PcLin
open Lean.Grind

/-! ### the mirrors -/
abbrev IRow := List Int
def addM (p : Int) (v w : IRow) : IRow := List.zipWith (fun x y => (x + y) % p) v w
def scaledM (p : Int) (v : IRow) (a : Int) : IRow := v.map fun x => x * a % p
def clearedM (p : Int) (row head : IRow) (i : Nat) : IRow := if row.getD i 0 = 0 then row else List.zipWith (fun x y => (x - row.getD i 0 * y) % p) row head
def invM (p a : Int) : Int := match (List.range (p.toNat - 1)).find? fun (k : Nat) => a * (1 + (k : Int)) % p == 1 with
  | some k => 1 + (k : Int)
  | none => 0
structure Rst where
  left : List IRow
  found : List IRow
  piv : List Nat
def heads (left : List IRow) (i : Nat) : List Nat := (List.range left.length).filter fun k => (left.getD k []).getD i 0 != 0
def redHit (p : Int) (i k : Nat) (s : Rst) : Rst :=
  let h := scaledM p (s.left.getD k []) (invM p ((s.left.getD k []).getD i 0))
  ⟨(s.left.eraseIdx k).map fun r => clearedM p r h i, (s.found.map fun r => clearedM p r h i) ++ [h], s.piv ++ [i]⟩
def redStep (p : Int) (s : Rst) (i : Nat) : Rst := match heads s.left i with
  | [] => s
  | k :: _ => redHit p i k s
def redN (p : Int) (rows : List IRow) (n : Nat) : Rst := (List.range n).foldl (redStep p) ⟨rows, [], []⟩
def tabM (p : Int) (rows : List IRow) (n : Nat) : List IRow := (redN p rows n).found
def pivM (p : Int) (rows : List IRow) (n : Nat) : List Nat := (redN p rows n).piv
def unitM (n f : Nat) : IRow := (List.range n).map fun i => if i = f then 1 else 0
def kerSet (p : Int) (f : Nat) (row : IRow) (lq : IRow × Nat) : IRow := row.set lq.2 ((-(lq.1.getD f 0)) % p)
def kerRow (p : Int) (tab : List IRow) (piv : List Nat) (n f : Nat) : IRow := (tab.zip piv).foldl (kerSet p f) (unitM n f)
def kerRows (p : Int) (tab : List IRow) (piv : List Nat) (n : Nat) : List IRow := ((List.range n).filter fun f => !piv.contains f).map (kerRow p tab piv n)
def kernelM (p : Int) (rows : List IRow) (n : Nat) : List IRow := tabM p (kerRows p (tabM p rows n) (pivM p rows n) n) n
def commonM (p : Int) (a b : List IRow) (n : Nat) : List IRow := kernelM p (kernelM p a n ++ kernelM p b n) n
def zeroM (n : Nat) : IRow := List.replicate n 0
def extM (p : Int) (l : List IRow) (r : IRow) : List IRow := l.flatMap fun w => (List.range p.toNat).map fun (a : Nat) => addM p w (scaledM p r (a : Int))
def allM (p : Int) (rows : List IRow) (n : Nat) : List IRow := rows.foldl (extM p) [zeroM n]
def lawStep (p : Int) (l : List IRow) (r : IRow) : List IRow := if l.contains r then l else extM p l r
def lawM (p : Int) (rows : List IRow) (n : Nat) : List IRow := rows.foldl (lawStep p) [zeroM n]
def leR (a b : IRow) : Bool := decide (a ≤ b)
def sortM (l : List IRow) : List IRow := l.mergeSort leR

/-! ### classes of ints -/
section
variable {p : Nat} [NeZero p]
theorem pos : 0 < (p : Int) := Int.natCast_pos.mpr (Nat.pos_of_ne_zero (NeZero.ne p))
def cl (x : Int) : Fin p := ⟨(x % p).toNat, by
  have h1 := Int.emod_nonneg x (b := (p : Int)) (by have := pos (p := p); omega)
  have h2 := Int.emod_lt_of_pos x (pos (p := p))
  omega⟩
theorem cl_val (x : Int) : (((cl x : Fin p)).val : Int) = x % p := by
  show (((x % p).toNat : Nat) : Int) = x % p
  have h1 := Int.emod_nonneg x (b := (p : Int)) (by have := pos (p := p); omega)
  omega
theorem fin_int {a b : Fin p} (h : (a.val : Int) = (b.val : Int)) : a = b := Fin.eq_of_val_eq (by omega)
theorem val_mod (a : Fin p) : (a.val : Int) % p = a.val := Int.emod_eq_of_lt (by omega) (by have := a.isLt; omega)
theorem cl_of (a : Fin p) : cl (a.val : Int) = a := fin_int (by rw [cl_val, val_mod])
theorem cl_add (x y : Int) : (cl (x + y) : Fin p) = cl x + cl y := fin_int (by
  rw [cl_val, Fin.val_add, Int.natCast_emod, Int.natCast_add, cl_val, cl_val, ← Int.add_emod])
theorem cl_mul (x y : Int) : (cl (x * y) : Fin p) = cl x * cl y := fin_int (by
  rw [cl_val, Fin.val_mul, Int.natCast_emod, Int.natCast_mul, cl_val, cl_val, ← Int.mul_emod])
theorem cl_zero : (cl 0 : Fin p) = 0 := fin_int (by rw [cl_val]; simp)
theorem cl_one : (cl 1 : Fin p) = 1 := fin_int (by
  rw [cl_val]
  have : ((1 : Fin p).val : Int) = 1 % (p : Int) := by
    rw [show (1 : Fin p) = Fin.ofNat p 1 from rfl]
    show (((1 % p : Nat)) : Int) = _
    exact Int.natCast_emod 1 p
  rw [this])
theorem cl_neg (x : Int) : (cl (-x) : Fin p) = -cl x := by
  have h : (cl (-x) : Fin p) + cl x = 0 := by rw [← cl_add, Int.add_left_neg, cl_zero]
  grind
theorem cl_sub (x y : Int) : (cl (x - y) : Fin p) = cl x - cl y := by
  rw [Int.sub_eq_add_neg, cl_add, cl_neg]; grind

/-! ### rows as lists -/
variable {n : Nat}
def phi (v : Vec n (Fin p)) : IRow := List.ofFn fun i => ((v i).val : Int)
theorem phi_len (v : Vec n (Fin p)) : (phi v).length = n := by unfold phi; rw [List.length_ofFn]
theorem phi_at (v : Vec n (Fin p)) (i : Nat) (h : i < (phi v).length) : (phi v)[i] = ((v ⟨i, by rw [phi_len] at h; exact h⟩).val : Int) := by
  exact List.getElem_ofFn (f := fun i => ((v i).val : Int)) h
theorem phi_getD (v : Vec n (Fin p)) (i : Fin n) : (phi v).getD i.val 0 = ((v i).val : Int) := by
  rw [List.getD_eq_getElem?_getD, List.getElem?_eq_getElem (by rw [phi_len]; exact i.isLt), phi_at]; rfl
theorem phi_inj {v w : Vec n (Fin p)} (h : phi v = phi w) : v = w := by
  funext i
  refine fin_int ?_
  rw [← phi_getD, ← phi_getD, h]
theorem phi_ext {r : IRow} {v : Vec n (Fin p)} (hl : r.length = n) (h : ∀ i : Fin n, r[i.val]'(by rw [hl]; exact i.isLt) = ((v i).val : Int)) : r = phi v := by
  refine List.ext_getElem (by rw [hl, phi_len]) fun i h1 h2 => ?_
  rw [phi_at]
  exact h ⟨i, by rw [hl] at h1; exact h1⟩
structure W (p n : Nat) (r : IRow) : Prop where
  len : r.length = n
  rng : ∀ x ∈ r, 0 ≤ x ∧ x < (p : Int)
theorem phi_W (v : Vec n (Fin p)) : W p n (phi v) := by
  refine ⟨phi_len v, fun x hx => ?_⟩
  unfold phi at hx
  rw [List.mem_ofFn] at hx
  obtain ⟨i, rfl⟩ := hx
  have := (v i).isLt
  omega
theorem W.ex {r : IRow} (h : W p n r) : ∃ v : Vec n (Fin p), r = phi v := by
  refine ⟨fun i => cl (r.getD i.val 0), phi_ext h.len fun i => ?_⟩
  have hi : i.val < r.length := by rw [h.len]; exact i.isLt
  rw [cl_val, List.getD_eq_getElem?_getD, List.getElem?_eq_getElem hi]
  have := h.rng _ (List.getElem_mem hi)
  exact (Int.emod_eq_of_lt this.1 this.2).symm
theorem ws_ex : ∀ {rs : List IRow}, (∀ r ∈ rs, W p n r) → ∃ R : List (Vec n (Fin p)), rs = R.map phi
  | [], _ => ⟨[], rfl⟩
  | r :: rs, h => by
    obtain ⟨v, rfl⟩ := (h r List.mem_cons_self).ex
    obtain ⟨R, rfl⟩ := ws_ex fun s hs => h s (List.mem_cons_of_mem _ hs)
    exact ⟨v :: R, rfl⟩
theorem phi_zip (f : Int → Int → Int) (g : Fin p → Fin p → Fin p) (h : ∀ a b : Fin p, f a.val b.val = (g a b).val) (v w : Vec n (Fin p)) : List.zipWith f (phi v) (phi w) = phi fun i => g (v i) (w i) := by
  refine phi_ext (by rw [List.length_zipWith, phi_len, phi_len, Nat.min_self]) fun i => ?_
  rw [List.getElem_zipWith, phi_at, phi_at]
  exact h _ _
theorem phi_add (v w : Vec n (Fin p)) : addM p (phi v) (phi w) = phi fun i => v i + w i :=
  phi_zip _ _ (fun a b => by rw [← cl_val, cl_add, cl_of, cl_of]) v w
theorem phi_scaled (v : Vec n (Fin p)) (a : Int) : scaledM p (phi v) a = phi fun i => cl a * v i := by
  unfold scaledM
  refine phi_ext (by rw [List.length_map, phi_len]) fun i => ?_
  rw [List.getElem_map, phi_at, ← cl_val, cl_mul, cl_of]
  rw [show v ⟨i.val, _⟩ * cl a = cl a * v i from by grind]
theorem phi_cleared (r h : Vec n (Fin p)) (i : Fin n) : clearedM p (phi r) (phi h) i.val = phi fun j => r j - r i * h j := by
  unfold clearedM
  by_cases c : (phi r).getD i.val 0 = 0
  · rw [if_pos c]
    rw [phi_getD] at c
    have z : r i = 0 := fin_int (by rw [c]; rfl)
    rw [z]
    congr 1
    funext j
    grind
  · rw [if_neg c, phi_getD]
    exact phi_zip _ (fun a b => a - r i * b) (fun a b => by rw [← cl_val, cl_sub, cl_mul, cl_of, cl_of, cl_of]) r h
theorem phi_zero : zeroM n = phi (fun _ : Fin n => (0 : Fin p)) := by
  unfold zeroM
  refine phi_ext (by rw [List.length_replicate]) fun i => ?_
  rw [List.getElem_replicate]; rfl

/-! ### the reduction -/
theorem inv_ok (inv : ∀ a : Fin p, a ≠ 0 → ∃ b, a * b = 1) (hp : 1 < p) (a : Fin p) (h : a ≠ 0) : cl (invM p a.val) * a = 1 := by
  obtain ⟨b, hb⟩ := inv a h
  have hb0 : b.val ≠ 0 := fun z => by
    have : b = 0 := Fin.eq_of_val_eq z
    rw [this] at hb
    have z1 : (0 : Fin p) = 1 := by grind
    have z2 : (0 : Nat) = 1 % p := congrArg Fin.val z1
    rw [Nat.mod_eq_of_lt hp] at z2
    omega
  unfold invM
  cases e : (List.range ((p : Int).toNat - 1)).find? fun (k : Nat) => (a.val : Int) * (1 + (k : Int)) % p == 1 with
  | none =>
    have := List.find?_eq_none.mp e (b.val - 1) (List.mem_range.mpr (by have := b.isLt; omega))
    refine absurd ?_ this
    have q : (1 + ((b.val - 1 : Nat) : Int)) = (b.val : Int) := by omega
    rw [q, beq_iff_eq, ← cl_val, cl_mul, cl_of, cl_of, hb, show ((1 : Fin p).val : Int) = 1 from by
      have z2 : (1 : Fin p).val = 1 % p := rfl
      rw [z2, Nat.mod_eq_of_lt hp]; rfl]
  | some k =>
    have q := List.find?_some e
    rw [beq_iff_eq, ← cl_val, cl_mul, cl_of] at q
    show cl (1 + (k : Int)) * a = 1
    refine fin_int ?_
    rw [show cl (1 + (k : Int)) * a = a * cl (1 + (k : Int)) from by grind, q]
    have z2 : (1 : Fin p).val = 1 % p := rfl
    rw [z2, Nat.mod_eq_of_lt hp]; rfl
structure RI (R : List (Vec n (Fin p))) (k : Nat) (s : Rst) (F : Tab n (Fin p)) (L : List (Vec n (Fin p))) : Prop where
  left : s.left = L.map phi
  found : s.found = (Tab.rows F).map phi
  piv : s.piv = (Tab.pivs F).map (·.val)
  rr : Rr F
  low : ∀ x ∈ F, x.2.val < k
  zero : ∀ r ∈ L, ∀ j : Fin n, j.val < k → r j = 0
  sp : ∀ v, SpL (Tab.rows F ++ L) v ↔ SpL R v
theorem getD_map {α β : Type} (f : α → β) (l : List α) (k : Nat) (d : β) (h : k < l.length) : (l.map f).getD k d = f l[k] := by
  rw [List.getD_eq_getElem?_getD, List.getElem?_map, List.getElem?_eq_getElem h]; rfl
theorem heads_mem {L : List (Vec n (Fin p))} {i : Fin n} {k : Nat} : k ∈ heads (L.map phi) i.val ↔ ∃ h : k < L.length, L[k] i ≠ 0 := by
  unfold heads
  rw [List.mem_filter, List.mem_range, List.length_map]
  constructor
  · rintro ⟨h, q⟩
    refine ⟨h, fun z => ?_⟩
    rw [getD_map _ _ _ _ h, phi_getD, z] at q
    simp at q
  · rintro ⟨h, q⟩
    refine ⟨h, ?_⟩
    rw [getD_map _ _ _ _ h, phi_getD, bne_iff_ne]
    exact fun z => q (fin_int (by rw [z]; rfl))
theorem mem_erase {α : Type} {l : List α} {k : Nat} (h : k < l.length) (x : α) : x ∈ l ↔ x ∈ l.eraseIdx k ∨ x = l[k] := by
  induction l generalizing k with
  | nil => simp at h
  | cons a l ih =>
    cases k with
    | zero => simp [or_comm]
    | succ k =>
      rw [List.eraseIdx_cons_succ, List.mem_cons, List.mem_cons, ih (by simpa using h), _root_.or_assoc]
      rfl
theorem erase_map {α β : Type} (f : α → β) : ∀ (l : List α) (k : Nat), (l.map f).eraseIdx k = (l.eraseIdx k).map f
  | [], _ => rfl
  | _ :: _, 0 => rfl
  | a :: l, k + 1 => by rw [List.map_cons, List.eraseIdx_cons_succ, List.eraseIdx_cons_succ, erase_map f l k, List.map_cons]
theorem red_step (inv : ∀ a : Fin p, a ≠ 0 → ∃ b, a * b = 1) (hp : 1 < p) {R L : List (Vec n (Fin p))} {k : Nat} {s : Rst} {F : Tab n (Fin p)} (h : RI R k s F L) (hk : k < n) : ∃ F' L', RI R (k + 1) (redStep p s k) F' L' := by
  have i : Fin n := ⟨k, hk⟩
  unfold redStep
  cases e : heads s.left k with
  | nil =>
    refine ⟨F, L, h.left, h.found, h.piv, h.rr, fun x hx => Nat.lt_succ_of_lt (h.low x hx), fun r hr j hj => ?_, h.sp⟩
    rcases Nat.lt_succ_iff_lt_or_eq.mp hj with c | c
    · exact h.zero r hr j c
    · apply Classical.byContradiction
      intro ne
      obtain ⟨m, hm, rfl⟩ := List.getElem_of_mem hr
      have : m ∈ heads (L.map phi) j.val := heads_mem.mpr ⟨hm, ne⟩
      rw [← h.left, c, e] at this
      cases this
  | cons m ms =>
    have hm : m ∈ heads (L.map phi) (⟨k, hk⟩ : Fin n).val := by rw [← h.left, e]; exact List.mem_cons_self
    obtain ⟨hm, ne⟩ := heads_mem.mp hm
    have hh : scaledM p (s.left.getD m []) (invM p ((s.left.getD m []).getD k 0)) = phi fun j => cl (invM p (L[m] ⟨k, hk⟩).val) * L[m] j := by
      rw [h.left, getD_map _ _ _ _ hm, show (phi L[m]).getD k 0 = _ from phi_getD L[m] ⟨k, hk⟩, phi_scaled]
    have hd1 : cl (invM p (L[m] ⟨k, hk⟩).val) * L[m] ⟨k, hk⟩ = 1 := inv_ok inv hp _ ne
    have hs0 : ∀ j : Fin n, j.val < k → L[m] j = 0 := fun j hj => h.zero _ (List.getElem_mem hm) j hj
    have ex : ∃ hd : Vec n (Fin p), scaledM p (s.left.getD m []) (invM p ((s.left.getD m []).getD k 0)) = phi hd ∧ hd ⟨k, hk⟩ = 1 ∧ (∀ j : Fin n, j.val < k → hd j = 0) ∧ (∃ c : Fin p, hd = fun j => c * L[m] j) ∧ L[m] = fun j => L[m] ⟨k, hk⟩ * hd j :=
      ⟨_, hh, hd1, fun j hj => by rw [hs0 j hj]; grind, ⟨_, rfl⟩, by funext j; grind⟩
    obtain ⟨hd, hh, hd1, hd0, ⟨c, hc⟩, hb⟩ := ex
    refine ⟨(F.map fun x => (fun j => x.1 j - x.1 ⟨k, hk⟩ * hd j, x.2)) ++ [(hd, ⟨k, hk⟩)], (L.eraseIdx m).map fun r => fun j => r j - r ⟨k, hk⟩ * hd j, ?_, ?_, ?_, ?_, ?_, ?_, ?_⟩
    · show (s.left.eraseIdx m).map _ = _
      rw [hh, h.left, erase_map, List.map_map, List.map_map]
      exact List.map_congr_left fun r _ => phi_cleared r hd ⟨k, hk⟩
    · show (s.found.map _) ++ [_] = _
      rw [hh, h.found]
      unfold Tab.rows
      rw [List.map_append, List.map_append, List.map_map, List.map_map, List.map_map, List.map_map]
      congr 1
      exact List.map_congr_left fun (x : Vec n (Fin p) × Fin n) _ => phi_cleared x.1 hd ⟨k, hk⟩
    · show s.piv ++ [k] = _
      rw [h.piv]
      unfold Tab.pivs
      rw [List.map_append, List.map_append, List.map_map, List.map_map, List.map_map]
      rfl
    · have low : ∀ x ∈ F, hd x.2 = 0 := fun x hx => hd0 _ (h.low x hx)
      refine Rr.snoc ⟨fun s hs => ?_, ?_⟩ hd1 (fun j hj => hd0 j hj) fun s hs => ?_
      · obtain ⟨x, hx, rfl⟩ := List.mem_map.mp hs
        refine ⟨?_, fun j hj => ?_⟩
        · show x.1 x.2 - x.1 ⟨k, hk⟩ * hd x.2 = 1
          rw [low x hx, (h.rr.one x hx).1]; grind
        · show x.1 j - x.1 ⟨k, hk⟩ * hd j = 0
          rw [(h.rr.one x hx).2 j hj, hd0 j (Nat.lt_trans hj (h.low x hx))]; grind
      · rw [List.pairwise_map]
        refine (List.pairwise_iff_forall_sublist.mpr fun {a b} hab => ?_)
        have q := List.pairwise_iff_forall_sublist.mp h.rr.two hab
        have ha : a ∈ F := hab.subset (by simp)
        have hb : b ∈ F := hab.subset (by simp)
        refine ⟨q.1, ?_, ?_⟩
        · show a.1 b.2 - a.1 ⟨k, hk⟩ * hd b.2 = 0
          rw [q.2.1, low b hb]; grind
        · show b.1 a.2 - b.1 ⟨k, hk⟩ * hd a.2 = 0
          rw [q.2.2, low a ha]; grind
      · obtain ⟨x, hx, rfl⟩ := List.mem_map.mp hs
        refine ⟨h.low x hx, ?_⟩
        show x.1 ⟨k, hk⟩ - x.1 ⟨k, hk⟩ * hd ⟨k, hk⟩ = 0
        rw [hd1]; grind
    · intro x hx
      rcases List.mem_append.mp hx with hx | hx
      · obtain ⟨y, hy, rfl⟩ := List.mem_map.mp hx
        exact Nat.lt_succ_of_lt (h.low y hy)
      · rw [List.mem_singleton] at hx; subst hx; exact Nat.lt_succ_self k
    · intro r hr j hj
      obtain ⟨x, hx, rfl⟩ := List.mem_map.mp hr
      have hx' := (mem_erase hm x).mpr (.inl hx)
      show x j - x ⟨k, hk⟩ * hd j = 0
      rcases Nat.lt_succ_iff_lt_or_eq.mp hj with c | c
      · rw [h.zero x hx' j c, hd0 j c]; grind
      · have : j = ⟨k, hk⟩ := Fin.eq_of_val_eq c
        rw [this, hd1]; grind
    · intro v
      rw [← h.sp v]
      have rw1 : Tab.rows ((F.map fun x => (fun j => x.1 j - x.1 ⟨k, hk⟩ * hd j, x.2)) ++ [(hd, (⟨k, hk⟩ : Fin n))]) = (Tab.rows F).map (fun r => fun j => r j - r ⟨k, hk⟩ * hd j) ++ [hd] := by
        unfold Tab.rows
        rw [List.map_append, List.map_map, List.map_map]; rfl
      rw [rw1]
      have old : ∀ r, (r ∈ Tab.rows F ∨ r ∈ L.eraseIdx m) → SpL (Tab.rows F ++ L) r := fun r hr => .mem (by
        rw [List.mem_append]
        exact hr.imp id fun q => (mem_erase hm r).mpr (.inl q))
      have oldh : SpL (Tab.rows F ++ L) hd := by
        rw [hc]
        exact (Sp.mem (List.mem_append_right _ (List.getElem_mem hm))).smul c
      have newh : SpL ((Tab.rows F).map (fun r => fun j => r j - r ⟨k, hk⟩ * hd j) ++ [hd] ++ (L.eraseIdx m).map fun r => fun j => r j - r ⟨k, hk⟩ * hd j) hd := .mem (by simp)
      have new : ∀ r, (r ∈ Tab.rows F ∨ r ∈ L.eraseIdx m) → SpL ((Tab.rows F).map (fun r => fun j => r j - r ⟨k, hk⟩ * hd j) ++ [hd] ++ (L.eraseIdx m).map fun r => fun j => r j - r ⟨k, hk⟩ * hd j) r := fun r hr => by
        have e : r = fun j => (r j - r ⟨k, hk⟩ * hd j) + r ⟨k, hk⟩ * hd j := by funext j; grind
        rw [e]
        refine Sp.add (.mem ?_) (newh.smul _)
        rw [List.mem_append, List.mem_append]
        rcases hr with hr | hr
        · exact .inl (.inl (List.mem_map.mpr ⟨r, hr, rfl⟩))
        · exact .inr (List.mem_map.mpr ⟨r, hr, rfl⟩)
      constructor
      · intro hv
        refine hv.of fun r hr => ?_
        rw [List.mem_append, List.mem_append] at hr
        rcases hr with (hr | hr) | hr
        · obtain ⟨x, hx, rfl⟩ := List.mem_map.mp hr
          exact (old x (.inl hx)).sub (oldh.smul _)
        · rw [List.mem_singleton] at hr; subst hr; exact oldh
        · obtain ⟨x, hx, rfl⟩ := List.mem_map.mp hr
          exact (old x (.inr hx)).sub (oldh.smul _)
      · intro hv
        refine hv.of fun r hr => ?_
        rcases List.mem_append.mp hr with hr | hr
        · exact new r (.inl hr)
        · rcases (mem_erase hm r).mp hr with hr | hr
          · exact new r (.inr hr)
          · rw [hr, hb]; exact newh.smul _
theorem red_ex (inv : ∀ a : Fin p, a ≠ 0 → ∃ b, a * b = 1) (hp : 1 < p) (R : List (Vec n (Fin p))) : ∀ k, k ≤ n → ∃ F L, RI R k ((List.range k).foldl (redStep p) ⟨R.map phi, [], []⟩) F L
  | 0, _ => ⟨[], R, rfl, rfl, rfl, Rr.nil, (fun x hx => by cases hx), (fun r _ j hj => absurd hj (Nat.not_lt_zero _)), fun v => Iff.rfl⟩
  | k + 1, hk => by
    obtain ⟨F, L, h⟩ := red_ex inv hp R k (Nat.le_of_succ_le hk)
    rw [List.range_succ, List.foldl_append]
    exact red_step inv hp h hk
/-- the reduced table of some rows -/
theorem red_ok (inv : ∀ a : Fin p, a ≠ 0 → ∃ b, a * b = 1) (hp : 1 < p) (R : List (Vec n (Fin p))) : ∃ T : Tab n (Fin p), Rr T ∧ tabM p (R.map phi) n = (Tab.rows T).map phi ∧ pivM p (R.map phi) n = (Tab.pivs T).map (·.val) ∧ ∀ v, SpL (Tab.rows T) v ↔ SpL R v := by
  obtain ⟨F, L, h⟩ := red_ex inv hp R n (Nat.le_refl n)
  refine ⟨F, h.rr, h.found, h.piv, fun v => ?_⟩
  rw [← h.sp v]
  constructor
  · exact fun q => q.mono fun r hr => List.mem_append_left _ hr
  · intro q
    refine q.of fun r hr => ?_
    rcases List.mem_append.mp hr with hr | hr
    · exact .mem hr
    · have : r = fun _ => 0 := by funext j; exact h.zero r hr j j.isLt
      rw [this]; exact .zero
end
end PcLin
/-! What the mirrors answer: the plain law. -/
set_option linter.all false
namespace PcLin
open Lean.Grind
section
variable {p : Nat} [NeZero p] {n : Nat}
/-! ### the kernel -/
def kset (f : Fin n) (row : Vec n (Fin p)) (s : Vec n (Fin p) × Fin n) : Vec n (Fin p) := fun j => if j = s.2 then -(s.1 f) else row j
def kunit (f : Fin n) : Vec n (Fin p) := fun j => if j = f then 1 else 0
def kfun (L : Tab n (Fin p)) (f : Fin n) : Vec n (Fin p) := L.foldl (kset f) (kunit f)
theorem kfold_out (f : Fin n) : ∀ (L : Tab n (Fin p)) (row : Vec n (Fin p)) (j : Fin n), j ∉ Tab.pivs L → L.foldl (kset f) row j = row j
  | [], _, _, _ => rfl
  | s :: L, row, j, h => by
    rw [List.foldl_cons, kfold_out f L _ j fun q => h (List.mem_cons_of_mem _ q)]
    unfold kset
    rw [if_neg fun e => h (by rw [e]; exact List.mem_cons_self)]
theorem kfold_in (f : Fin n) : ∀ (L : Tab n (Fin p)) (row : Vec n (Fin p)), (Tab.pivs L).Nodup → ∀ s ∈ L, L.foldl (kset f) row s.2 = -(s.1 f)
  | [], _, _, s, h => by cases h
  | u :: L, row, nd, s, h => by
    have nd' := List.nodup_cons.mp nd
    rw [List.foldl_cons]
    rcases List.mem_cons.mp h with rfl | h
    · rw [kfold_out f L _ s.2 nd'.1]
      unfold kset
      rw [if_pos rfl]
    · exact kfold_in f L _ nd'.2 s h
theorem isk_kfun {L : Tab n (Fin p)} (h : Rr L) {f : Fin n} (hf : f ∉ Tab.pivs L) : IsK L f (kfun L f) := by
  refine ⟨?_, fun j hj ne => ?_, fun s hs => ?_⟩
  · unfold kfun
    rw [kfold_out f L _ f hf]
    unfold kunit
    rw [if_pos rfl]
  · unfold kfun
    rw [kfold_out f L _ j hj]
    unfold kunit
    rw [if_neg ne]
  · exact kfold_in f L _ h.nodup s hs
theorem set_phi (row : Vec n (Fin p)) (s : Vec n (Fin p) × Fin n) (f : Fin n) : kerSet p f.val (phi row) (phi s.1, s.2.val) = phi (kset f row s) := by
  unfold kerSet
  show (phi row).set s.2.val ((-((phi s.1).getD f.val 0)) % p) = _
  refine phi_ext (by rw [List.length_set, phi_len]) fun i => ?_
  rw [List.getElem_set, phi_getD, ← cl_val, cl_neg, cl_of, phi_at]
  unfold kset
  by_cases c : i = s.2
  · rw [if_pos c, if_pos (by rw [c])]
  · rw [if_neg c, if_neg fun e => c (Fin.eq_of_val_eq e.symm)]
theorem unit_phi (hp : 1 < p) (f : Fin n) : unitM n f.val = phi (kunit f : Vec n (Fin p)) := by
  unfold unitM
  refine phi_ext (by rw [List.length_map, List.length_range]) fun i => ?_
  rw [List.getElem_map, List.getElem_range]
  unfold kunit
  by_cases c : i = f
  · rw [if_pos (by rw [c]), if_pos c]
    show (1 : Int) = ((1 % p : Nat) : Int)
    rw [Nat.mod_eq_of_lt hp]; rfl
  · rw [if_neg fun e => c (Fin.eq_of_val_eq e), if_neg c]; rfl
theorem kerfold_phi (f : Fin n) : ∀ (L : Tab n (Fin p)) (row : Vec n (Fin p)), (((Tab.rows L).map phi).zip ((Tab.pivs L).map (·.val))).foldl (kerSet p f.val) (phi row) = phi (L.foldl (kset f) row)
  | [], _ => rfl
  | s :: L, row => by
    show (((Tab.rows L).map phi).zip ((Tab.pivs L).map (·.val))).foldl (kerSet p f.val) (kerSet p f.val (phi row) (phi s.1, s.2.val)) = _
    rw [set_phi, kerfold_phi f L]
    rfl
theorem kerRow_phi (hp : 1 < p) (L : Tab n (Fin p)) (f : Fin n) : kerRow p ((Tab.rows L).map phi) ((Tab.pivs L).map (·.val)) n f.val = phi (kfun L f) := by
  unfold kerRow
  rw [unit_phi hp, kerfold_phi]
  rfl
theorem frees_val (L : Tab n (Fin p)) : (List.range n).filter (fun f => !((Tab.pivs L).map (·.val)).contains f) = (frees L).map (·.val) := by
  unfold frees
  rw [show List.range n = (List.finRange n).map (·.val) from by
    refine List.ext_getElem (by simp) fun i h1 h2 => by simp]
  rw [List.filter_map]
  congr 1
  refine List.filter_congr fun j _ => ?_
  show (!((Tab.pivs L).map (·.val)).contains j.val) = !inP L j
  congr 1
  unfold inP
  rw [Bool.eq_iff_iff, List.contains_iff_mem, decide_eq_true_eq, List.mem_map]
  constructor
  · rintro ⟨a, ha, e⟩; rw [← Fin.eq_of_val_eq e]; exact ha
  · intro h; exact ⟨j, h, rfl⟩
theorem kerRows_phi (hp : 1 < p) (L : Tab n (Fin p)) : kerRows p ((Tab.rows L).map phi) ((Tab.pivs L).map (·.val)) n = ((frees L).map (kfun L)).map phi := by
  unfold kerRows
  rw [frees_val, List.map_map, List.map_map]
  exact List.map_congr_left fun f _ => kerRow_phi hp L f
theorem kernel_ok (inv : ∀ a : Fin p, a ≠ 0 → ∃ b, a * b = 1) (hp : 1 < p) (R : List (Vec n (Fin p))) : ∃ T : Tab n (Fin p), Rr T ∧ kernelM p (R.map phi) n = (Tab.rows T).map phi ∧ ∀ v, SpL (Tab.rows T) v ↔ Perp (· ∈ R) v := by
  obtain ⟨T, hT, e1, e2, sT⟩ := red_ok inv hp R
  obtain ⟨U, hU, f1, _, sU⟩ := red_ok inv hp ((frees T).map (kfun T))
  refine ⟨U, hU, ?_, fun v => ?_⟩
  · unfold kernelM
    rw [e1, e2, kerRows_phi hp, f1]
  · rw [sU, ← perp_sp, ← perp_congr sT, perp_sp, ← kern_span hT (k := kfun T) fun f hf => isk_kfun hT hf]
    constructor
    · exact fun h => h.mono fun r hr => by
        obtain ⟨f, hf, e⟩ := List.mem_map.mp hr
        exact ⟨f, mem_frees.mp hf, e.symm⟩
    · exact fun h => h.mono fun r ⟨f, hf, e⟩ => List.mem_map.mpr ⟨f, mem_frees.mpr hf, e.symm⟩
theorem common_ok (inv : ∀ a : Fin p, a ≠ 0 → ∃ b, a * b = 1) (hp : 1 < p) {A B : Tab n (Fin p)} (hA : Rr A) (hB : Rr B) : ∃ T : Tab n (Fin p), Rr T ∧ commonM p ((Tab.rows A).map phi) ((Tab.rows B).map phi) n = (Tab.rows T).map phi ∧ ∀ v, SpL (Tab.rows T) v ↔ SpL (Tab.rows A) v ∧ SpL (Tab.rows B) v := by
  obtain ⟨KA, hKA, eA, sA⟩ := kernel_ok inv hp (Tab.rows A)
  obtain ⟨KB, hKB, eB, sB⟩ := kernel_ok inv hp (Tab.rows B)
  obtain ⟨T, hT, eT, sT⟩ := kernel_ok inv hp (Tab.rows KA ++ Tab.rows KB)
  refine ⟨T, hT, ?_, fun v => ?_⟩
  · unfold commonM
    rw [eA, eB, ← List.map_append, eT]
  · rw [sT, ← perp_perp hA (k := kfun A) fun f hf => isk_kfun hA hf, ← perp_perp hB (k := kfun B) fun f hf => isk_kfun hB hf, ← perp_congr sA, ← perp_congr sB, perp_sp, perp_sp]
    constructor
    · exact fun h => ⟨fun r hr => h r (List.mem_append_left _ hr), fun r hr => h r (List.mem_append_right _ hr)⟩
    · exact fun h r hr => (List.mem_append.mp hr).elim (h.1 r) (h.2 r)
theorem sum_ok (inv : ∀ a : Fin p, a ≠ 0 → ∃ b, a * b = 1) (hp : 1 < p) (A B : List (Vec n (Fin p))) : ∃ T : Tab n (Fin p), Rr T ∧ tabM p (A.map phi ++ B.map phi) n = (Tab.rows T).map phi ∧ ∀ v, SpL (Tab.rows T) v ↔ SpL (A ++ B) v := by
  obtain ⟨T, hT, e1, _, sT⟩ := red_ok inv hp (A ++ B)
  exact ⟨T, hT, by rw [← List.map_append, e1], sT⟩

/-! ### all rows of a space -/
def els (p : Nat) : List (Fin p) := List.finRange p
theorem els_full (a : Fin p) : a ∈ els p := List.mem_finRange a
theorem els_nd : (els p).Nodup := List.nodup_finRange p
theorem els_len : (els p).length = p := List.length_finRange
theorem ext_phi (l : List (Vec n (Fin p))) (r : Vec n (Fin p)) : extM p (l.map phi) (phi r) = (ext (els p) l r).map phi := by
  unfold extM ext
  rw [List.flatMap_map, List.map_flatMap]
  congr 1
  funext w
  rw [List.map_map, show ((p : Int).toNat) = p from Int.toNat_natCast p]
  unfold els
  rw [show List.range p = (List.finRange p).map (·.val) from by
    refine List.ext_getElem (by simp) fun i h1 h2 => by simp]
  rw [List.map_map]
  refine List.map_congr_left fun a _ => ?_
  show addM p (phi w) (scaledM p (phi r) ((a.val : Nat) : Int)) = phi fun i => w i + a * r i
  rw [phi_scaled, phi_add, cl_of]
theorem all_phi (R : List (Vec n (Fin p))) : allM p (R.map phi) n = (enT (els p) R).map phi := by
  induction R using snoc_ind with
  | h0 => show [zeroM n] = [phi _]; rw [phi_zero (p := p)]
  | h1 R r ih =>
    rw [enT_snoc, ← ext_phi, ← ih]
    unfold allM
    rw [List.map_append, List.foldl_append]
    rfl
theorem law_phi (inv : ∀ a : Fin p, a ≠ 0 → ∃ b, a * b = 1) (R : List (Vec n (Fin p))) : ∃ l : List (Vec n (Fin p)), En l (SpL R) ∧ lawM p (R.map phi) n = l.map phi := by
  induction R using snoc_ind with
  | h0 => exact ⟨_, en_nil, by show [zeroM n] = [phi _]; rw [phi_zero (p := p)]⟩
  | h1 R r ih =>
    obtain ⟨l, hl, e⟩ := ih
    have e2 : lawM p ((R ++ [r]).map phi) n = lawStep p (l.map phi) (phi r) := by
      unfold lawM at e ⊢
      rw [List.map_append, List.foldl_append, e]
      rfl
    rw [e2]
    unfold lawStep
    by_cases c : r ∈ l
    · rw [if_pos (List.contains_iff_mem.mpr (List.mem_map.mpr ⟨r, c, rfl⟩))]
      have hr := (hl.mem r).mp c
      exact ⟨l, ⟨hl.nd, fun v => by rw [hl.mem, spl_snoc_in hr]⟩, rfl⟩
    · rw [if_neg fun q => c (by
        obtain ⟨s, hs, e⟩ := List.mem_map.mp (List.contains_iff_mem.mp q)
        rw [← phi_inj e]; exact hs)]
      exact ⟨_, en_ext inv (List.nodup_finRange p) els_full hl fun q => c ((hl.mem r).mpr q), ext_phi l r⟩

/-! ### sorted -/
theorem leR_trans (a b c : IRow) : leR a b = true → leR b c = true → leR a c = true := by
  unfold leR
  simp only [decide_eq_true_eq]
  exact fun h1 h2 => List.le_trans h1 h2
theorem leR_total (a b : IRow) : (leR a b || leR b a) = true := by
  unfold leR
  rw [Bool.or_eq_true, decide_eq_true_eq, decide_eq_true_eq]
  exact List.le_total a b
theorem leR_anti {a b : IRow} : leR a b = true → leR b a = true → a = b := by
  unfold leR
  simp only [decide_eq_true_eq]
  exact fun h1 h2 => List.le_antisymm h1 h2
theorem sort_sorted (l : List IRow) : (sortM l).Pairwise fun a b => leR a b = true := List.pairwise_mergeSort leR_trans leR_total l
theorem sort_perm (l : List IRow) : (sortM l).Perm l := List.mergeSort_perm l leR
theorem sorted_eq {l m : List IRow} (hl : l.Pairwise fun a b => leR a b = true) (hm : m.Pairwise fun a b => leR a b = true) (h : l.Perm m) : l = m :=
  List.Perm.eq_of_pairwise (fun a b _ _ h1 h2 => leR_anti h1 h2) hl hm h
theorem sort_eq {l m : List IRow} (h : l.Perm m) : sortM l = sortM m := sorted_eq (sort_sorted l) (sort_sorted m) ((sort_perm l).trans (h.trans (sort_perm m).symm))
theorem phi_nodup {l : List (Vec n (Fin p))} (h : l.Nodup) : (l.map phi).Nodup := nodup_map_on (fun _ _ _ _ e => phi_inj e) h
theorem En.perm {l m : List (Vec n (Fin p))} {S T : Vec n (Fin p) → Prop} (hl : En l S) (hm : En m T) (e : ∀ v, S v ↔ T v) : l.Perm m := (List.perm_ext_iff_of_nodup hl.nd hm.nd).mpr fun v => by rw [hl.mem, hm.mem, e]
theorem en_sort {l m : List (Vec n (Fin p))} {S T : Vec n (Fin p) → Prop} (hl : En l S) (hm : En m T) (e : ∀ v, S v ↔ T v) : sortM (l.map phi) = sortM (m.map phi) := sort_eq ((hl.perm hm e).map phi)
theorem en_filter {l m k : List (Vec n (Fin p))} {S T : Vec n (Fin p) → Prop} (hl : En l S) (hm : En m T) (hk : En k fun v => S v ∧ T v) : (sortM (l.map phi)).filter (fun v => (sortM (m.map phi)).contains v) = sortM (k.map phi) := by
  refine sorted_eq ((sort_sorted _).filter _) (sort_sorted _) ?_
  refine (List.perm_ext_iff_of_nodup (((sort_perm _).nodup_iff.mpr (phi_nodup hl.nd)).filter _) ((sort_perm _).nodup_iff.mpr (phi_nodup hk.nd))).mpr fun r => ?_
  rw [List.mem_filter, (sort_perm _).mem_iff, (sort_perm _).mem_iff, List.contains_iff_mem, (sort_perm _).mem_iff]
  constructor
  · rintro ⟨h1, h2⟩
    obtain ⟨v, hv, rfl⟩ := List.mem_map.mp h1
    obtain ⟨u, hu, e⟩ := List.mem_map.mp h2
    have := phi_inj e
    subst this
    exact List.mem_map.mpr ⟨u, (hk.mem u).mpr ⟨(hl.mem u).mp hv, (hm.mem u).mp hu⟩, rfl⟩
  · intro h
    obtain ⟨v, hv, rfl⟩ := List.mem_map.mp h
    obtain ⟨a, b⟩ := (hk.mem v).mp hv
    exact ⟨List.mem_map.mpr ⟨v, (hl.mem v).mpr a, rfl⟩, List.mem_map.mpr ⟨v, (hm.mem v).mpr b, rfl⟩⟩

/-! ### the form of a reduced table -/
/-- what the law looks for in a told table: q i is the pivot of the row i -/
structure InForm (told : List IRow) (n : Nat) (q : List Nat) : Prop where
  len : q.length = told.length
  wid : ∀ r ∈ told, r.length = n
  lt : ∀ i (h : i < q.length), q[i] < n
  up : q.Pairwise (· < ·)
  one : ∀ i j (h : i < told.length) (h' : j < q.length), told[i].getD q[j] 0 = if i = j then 1 else 0
  low : ∀ i j (h : i < told.length) (h' : i < q.length), j < q[i] → told[i].getD j 0 = 0
theorem in_form (hp : 1 < p) {T : Tab n (Fin p)} (h : Rr T) : InForm ((Tab.rows T).map phi) n ((Tab.pivs T).map (·.val)) := by
  have one : ((1 : Fin p).val : Int) = 1 := by
    have z2 : (1 : Fin p).val = 1 % p := rfl
    rw [z2, Nat.mod_eq_of_lt hp]; rfl
  have lT : (Tab.rows T).length = T.length := List.length_map ..
  have lP : (Tab.pivs T).length = T.length := List.length_map ..
  have gT : ∀ i (hi : i < ((Tab.rows T).map phi).length), ((Tab.rows T).map phi)[i] = phi (T[i]'(by rw [List.length_map, lT] at hi; exact hi)).1 := fun i hi => by
    unfold Tab.rows; simp
  have gP : ∀ i (hi : i < ((Tab.pivs T).map (·.val)).length), ((Tab.pivs T).map (·.val))[i] = (T[i]'(by rw [List.length_map, lP] at hi; exact hi)).2.val := fun i hi => by
    unfold Tab.pivs; simp
  refine ⟨by rw [List.length_map, List.length_map, lT, lP], fun r hr => ?_, fun i hi => ?_, ?_, fun i j hi hj => ?_, fun i j hi hi' hj => ?_⟩
  · obtain ⟨v, _, rfl⟩ := List.mem_map.mp hr
    exact phi_len v
  · rw [gP]; exact Fin.isLt _
  · rw [List.pairwise_map]
    exact h.sorted.imp fun q => q
  · have hi' : i < T.length := by rw [List.length_map, lT] at hi; exact hi
    have hj' : j < T.length := by rw [List.length_map, lP] at hj; exact hj
    rw [gT, gP, phi_getD]
    by_cases c : i = j
    · subst c
      rw [if_pos rfl, (h.one _ (List.getElem_mem hi')).1, one]
    · rw [if_neg c, h.at (List.getElem_mem hi') (List.getElem_mem hj') fun e => c ?_]
      · rfl
      · have := h.inj (List.getElem_mem hi') (List.getElem_mem hj') e
        exact (List.getElem_inj (nodupL h)).mp this
  · have hi2 : i < T.length := by rw [List.length_map, lT] at hi; exact hi
    rw [gP] at hj
    have hjn : j < n := Nat.lt_trans hj (Fin.isLt _)
    rw [gT, show (phi (T[i]).1).getD j 0 = _ from phi_getD _ ⟨j, hjn⟩, (h.one _ (List.getElem_mem hi2)).2 ⟨j, hjn⟩ hj]
    rfl
end

/-! ### the law's five checks over two lists of rows -/
structure Checks (p : Nat) (n : Nat) (first second a b wide part : List IRow) : Prop where
  wide_form : ∃ q, InForm wide n q
  wide_span : sortM (lawM p wide n) = sortM (lawM p (first ++ second) n)
  part_form : ∃ q, InForm part n q
  part_span : sortM (lawM p part n) = (sortM (lawM p first n)).filter fun v => (sortM (lawM p second n)).contains v
  dims : wide.length + part.length = a.length + b.length
  wide_back : tabM p (b ++ a) n = wide
  part_back : commonM p b a n = part
  all_a : sortM (allM p a n) = sortM (lawM p first n)
  all_b : sortM (allM p b n) = sortM (lawM p second n)
theorem checks {p n : Nat} [NeZero p] (inv : ∀ a : Fin p, a ≠ 0 → ∃ b, a * b = 1) (hp : 1 < p) {first second : List IRow} (h1 : ∀ r ∈ first, W p n r) (h2 : ∀ r ∈ second, W p n r) :
    Checks p n first second (tabM p first n) (tabM p second n) (tabM p (tabM p first n ++ tabM p second n) n) (commonM p (tabM p first n) (tabM p second n) n) := by
  obtain ⟨R, rfl⟩ := ws_ex h1
  obtain ⟨S, rfl⟩ := ws_ex h2
  have h01 : (1 : Fin p) ≠ 0 := fun z => by
    have z2 : (1 % p : Nat) = 0 := congrArg Fin.val z
    rw [Nat.mod_eq_of_lt hp] at z2
    omega
  obtain ⟨A, hA, eA, _, sA⟩ := red_ok inv hp R
  obtain ⟨B, hB, eB, _, sB⟩ := red_ok inv hp S
  rw [eA, eB]
  obtain ⟨U, hU, eU, sU⟩ := sum_ok inv hp (Tab.rows A) (Tab.rows B)
  obtain ⟨U', hU', eU', sU'⟩ := sum_ok inv hp (Tab.rows B) (Tab.rows A)
  obtain ⟨C, hC, eC, sC⟩ := common_ok inv hp hA hB
  obtain ⟨C', hC', eC', sC'⟩ := common_ok inv hp hB hA
  obtain ⟨lR, hlR, elR⟩ := law_phi inv R
  obtain ⟨lS, hlS, elS⟩ := law_phi inv S
  obtain ⟨lRS, hlRS, elRS⟩ := law_phi inv (R ++ S)
  obtain ⟨lU, hlU, elU⟩ := law_phi inv (Tab.rows U)
  obtain ⟨lC, hlC, elC⟩ := law_phi inv (Tab.rows C)
  have enA := en_rr inv h01 els_nd els_full A hA
  have enB := en_rr inv h01 els_nd els_full B hB
  have enU := en_rr inv h01 els_nd els_full U hU
  have enC := en_rr inv h01 els_nd els_full C hC
  have app : ∀ (X Y X' Y' : List (Vec n (Fin p))), (∀ v, SpL X v ↔ SpL X' v) → (∀ v, SpL Y v ↔ SpL Y' v) → ∀ v, SpL (X ++ Y) v ↔ SpL (X' ++ Y') v := fun X Y X' Y' e f v => by
    rw [spl_append, spl_append]
    constructor
    · rintro ⟨a, b, ha, hb, rfl⟩; exact ⟨a, b, (e a).mp ha, (f b).mp hb, rfl⟩
    · rintro ⟨a, b, ha, hb, rfl⟩; exact ⟨a, b, (e a).mpr ha, (f b).mpr hb, rfl⟩
  have lenr : ∀ T : Tab n (Fin p), ((Tab.rows T).map phi).length = T.length := fun T => by rw [List.length_map]; exact List.length_map ..
  have comm : ∀ v, SpL (Tab.rows B ++ Tab.rows A) v ↔ SpL (Tab.rows A ++ Tab.rows B) v := fun v => by
    rw [spl_append, spl_append]
    constructor
    · rintro ⟨a, b, ha, hb, rfl⟩; exact ⟨b, a, hb, ha, by funext i; grind⟩
    · rintro ⟨a, b, ha, hb, rfl⟩; exact ⟨b, a, hb, ha, by funext i; grind⟩
  rw [eU, eC]
  refine ⟨⟨_, in_form hp hU⟩, ?_, ⟨_, in_form hp hC⟩, ?_, ?_, ?_, ?_, ?_, ?_⟩
  · rw [elU, ← List.map_append, elRS]
    exact en_sort hlU hlRS fun v => by rw [sU v]; exact app _ _ _ _ sA sB v
  · rw [elC, elR, elS]
    exact (en_filter hlR hlS ⟨hlC.nd, fun v => by rw [hlC.mem, sC, sA, sB]⟩).symm
  · rw [lenr, lenr, lenr, lenr]
    have d := PcLin.dims (A := Tab.rows A) (B := Tab.rows B) enA.1 enB.1 (lW := enT (els p) (Tab.rows U)) ⟨enU.1.nd, fun v => by rw [enU.1.mem, sU]⟩ (lP := enT (els p) (Tab.rows C)) ⟨enC.1.nd, fun v => by rw [enC.1.mem, sC]⟩
    have e1 := enA.2; have e2 := enB.2; have e3 := enU.2; have e4 := enC.2
    change _ = (els p).length ^ _ at e1 e2 e3 e4
    rw [els_len] at e1 e2 e3 e4
    rw [e1, e2, e3, e4, ← Nat.pow_add, ← Nat.pow_add] at d
    exact (Nat.pow_right_inj hp).mp d
  · rw [eU']
    rw [unique h01 hU' hU fun v => by rw [sU', sU]; exact comm v]
  · rw [eC']
    rw [unique h01 hC' hC fun v => by rw [sC', sC]; exact And.comm]
  · rw [all_phi, elR]
    exact en_sort enA.1 hlR sA
  · rw [all_phi, elS]
    exact en_sort enB.1 hlS sB
end PcLin
set_option Elab.async false
set_option linter.all false
set_option maxRecDepth 100000
set_option maxHeartbeats 4000000
/-! A layer over HandS that speaks of data: slots hold data, lists that change are owned by one slot. -/
namespace PcW
open PySem L2

/-! ### data at a value -/
mutual
inductive Rp (H : Hp) : V → PyData → Prop
  | non : Rp H .non .none
  | bl (b : Bool) : Rp H (.bl b) (.bool b)
  | int (i : Int) : Rp H (.int i) (.int i)
  | str (x : Str) : Rp H (.str x) (.str x)
  | lst {a : Addr} {xs : List V} {ds : List PyData} : H a = some (.lst xs) → RpAll H xs ds → Rp H (.ref a) (.list ds)
  | tup {a : Addr} {xs : List V} {ds : List PyData} : H a = some (.tup xs) → RpAll H xs ds → Rp H (.ref a) (.tuple ds)
inductive RpAll (H : Hp) : List V → List PyData → Prop
  | nil : RpAll H [] []
  | cons {v : V} {vs : List V} {d : PyData} {ds : List PyData} : Rp H v d → RpAll H vs ds → RpAll H (v :: vs) (d :: ds)
end
/-- what stood stands -/
def Ex (H H' : Hp) : Prop := ∀ a o, H a = some o → H' a = some o
theorem Ex.refl (H : Hp) : Ex H H := fun _ _ h => h
theorem Ex.trans {H H1 H2 : Hp} (a : Ex H H1) (b : Ex H1 H2) : Ex H H2 := fun x o h => b x o (a x o h)
theorem Ex.new {H : Hp} {p : Addr} {o : HO} (h : H p = none) : Ex H (upd H p o) := fun a u e => by rw [upd_ne (ne_of_none e h)]; exact e
theorem fresh_back {H H' : Hp} {p : Addr} (e : Ex H H') (h : H' p = none) : H p = none := by
  cases q : H p with
  | none => rfl
  | some o => rw [e p o q] at h; cases h
mutual
theorem Rp.mono {H H' : Hp} (e : Ex H H') : ∀ {v : V} {d : PyData}, Rp H v d → Rp H' v d
  | _, _, .non => .non
  | _, _, .bl b => .bl b
  | _, _, .int i => .int i
  | _, _, .str x => .str x
  | _, _, .lst h r => .lst (e _ _ h) (RpAll.mono e r)
  | _, _, .tup h r => .tup (e _ _ h) (RpAll.mono e r)
theorem RpAll.mono {H H' : Hp} (e : Ex H H') : ∀ {vs : List V} {ds : List PyData}, RpAll H vs ds → RpAll H' vs ds
  | _, _, .nil => .nil
  | _, _, .cons h r => .cons (Rp.mono e h) (RpAll.mono e r)
end
mutual
theorem Rp.dp {K : PySem.W.Frag} {H : Hp} : ∀ {v : V} {d : PyData}, Rp H v d → Dp K H v d
  | _, _, .non => .non
  | _, _, .bl b => .bl b
  | _, _, .int i => .int i
  | _, _, .str x => .str x
  | _, _, .lst h r => .lst (SqL.of h) (RpAll.dp r)
  | _, _, .tup h r => .tup (SqT.of h) (RpAll.dp r)
theorem RpAll.dp {K : PySem.W.Frag} {H : Hp} : ∀ {vs : List V} {ds : List PyData}, RpAll H vs ds → DpAll K H vs ds
  | _, _, .nil => .nil
  | _, _, .cons h r => .cons (Rp.dp h) (RpAll.dp r)
end
theorem RpAll.len {H : Hp} : ∀ {vs : List V} {ds : List PyData}, RpAll H vs ds → vs.length = ds.length
  | _, _, .nil => rfl
  | _, _, .cons _ r => congrArg (· + 1) r.len
theorem RpAll.get {H : Hp} : ∀ {vs : List V} {ds : List PyData} {i : Nat} {d : PyData}, RpAll H vs ds → ds[i]? = some d → ∃ v, vs[i]? = some v ∧ Rp H v d
  | _, _, 0, _, .cons h _, e => by simp at e; subst e; exact ⟨_, rfl, h⟩
  | _, _, i + 1, d, .cons _ r, e => by simpa using RpAll.get r (by simpa using e)
  | _, _, 0, _, .nil, e => by simp at e
  | _, _, i + 1, _, .nil, e => by simp at e
theorem RpAll.getV {H : Hp} {vs : List V} {ds : List PyData} {i : Nat} {v : V} (r : RpAll H vs ds) (e : vs[i]? = some v) : ∃ d, ds[i]? = some d ∧ Rp H v d := by
  have hi := (List.getElem?_eq_some_iff.mp e).1
  have hj : i < ds.length := by rw [← r.len]; exact hi
  obtain ⟨u, hu, h⟩ := r.get (List.getElem?_eq_getElem hj)
  rw [e] at hu
  cases hu
  exact ⟨_, List.getElem?_eq_getElem hj, h⟩
theorem RpAll.append {H : Hp} : ∀ {vs ws : List V} {ds es : List PyData}, RpAll H vs ds → RpAll H ws es → RpAll H (vs ++ ws) (ds ++ es)
  | _, _, _, _, .nil, s => s
  | _, _, _, _, .cons h r, s => .cons h (r.append s)
theorem RpAll.snoc {H : Hp} {vs : List V} {v : V} {ds : List PyData} {d : PyData} (r : RpAll H vs ds) (h : Rp H v d) : RpAll H (vs ++ [v]) (ds ++ [d]) := r.append (.cons h .nil)
theorem RpAll.take {H : Hp} : ∀ (n : Nat) {vs : List V} {ds : List PyData}, RpAll H vs ds → RpAll H (vs.take n) (ds.take n)
  | 0, _, _, _ => .nil
  | _ + 1, _, _, .nil => .nil
  | n + 1, _, _, .cons h r => .cons h (RpAll.take n r)
theorem RpAll.drop {H : Hp} : ∀ (n : Nat) {vs : List V} {ds : List PyData}, RpAll H vs ds → RpAll H (vs.drop n) (ds.drop n)
  | 0, _, _, r => r
  | _ + 1, _, _, .nil => .nil
  | n + 1, _, _, .cons _ r => RpAll.drop n r
theorem RpAll.set {H : Hp} : ∀ {vs : List V} {ds : List PyData} (i : Nat) {v : V} {d : PyData}, RpAll H vs ds → Rp H v d → RpAll H (vs.set i v) (ds.set i d)
  | _, _, _, _, _, .nil, _ => .nil
  | _, _, 0, _, _, .cons _ r, q => .cons q r
  | _, _, i + 1, _, _, .cons h r, q => .cons h (r.set i q)
theorem RpAll.erase {H : Hp} : ∀ {vs : List V} {ds : List PyData} (i : Nat), RpAll H vs ds → RpAll H (vs.eraseIdx i) (ds.eraseIdx i)
  | _, _, _, .nil => .nil
  | _, _, 0, .cons _ r => r
  | _, _, i + 1, .cons h r => .cons h (r.erase i)
theorem RpAll.rep {H : Hp} {vs : List V} {ds : List PyData} (r : RpAll H vs ds) : ∀ n : Nat, RpAll H (List.replicate n vs).flatten (List.replicate n ds).flatten
  | 0 => .nil
  | n + 1 => by rw [List.replicate_succ, List.replicate_succ, List.flatten_cons, List.flatten_cons]; exact r.append (r.rep n)
theorem rp_int {H : Hp} {v : V} {i : Int} (h : Rp H v (.int i)) : v = .int i := by cases h; rfl
theorem rp_bl {H : Hp} {v : V} {b : Bool} (h : Rp H v (.bool b)) : v = .bl b := by cases h; rfl
theorem rp_non {H : Hp} {v : V} (h : Rp H v .none) : v = .non := by cases h; rfl
theorem rp_lst {H : Hp} {v : V} {ds : List PyData} (h : Rp H v (.list ds)) : ∃ a xs, v = .ref a ∧ H a = some (.lst xs) ∧ RpAll H xs ds := by cases h with | lst h r => exact ⟨_, _, rfl, h, r⟩
theorem rp_tup {H : Hp} {v : V} {ds : List PyData} (h : Rp H v (.tuple ds)) : ∃ a xs, v = .ref a ∧ H a = some (.tup xs) ∧ RpAll H xs ds := by cases h with | tup h r => exact ⟨_, _, rfl, h, r⟩
theorem rpAll_ints {H : Hp} : ∀ {ns : List Int} {xs : List V}, RpAll H xs (ns.map .int) → xs = ns.map V.int
  | [], _, h => by cases h; rfl
  | n :: ns, _, h => by
    cases h with
    | cons h r => rw [rp_int h, rpAll_ints r]; rfl
theorem ints_rpAll {H : Hp} : ∀ (ns : List Int), RpAll H (ns.map V.int) (ns.map .int)
  | [] => .nil
  | n :: ns => .cons (.int n) (ints_rpAll ns)

/-! ### heaps with some addresses hidden -/
open Classical in
noncomputable def hid (O : Addr → Prop) (H : Hp) : Hp := fun a => if O a then none else H a
theorem hid_some {O : Addr → Prop} {H : Hp} {a : Addr} {o : HO} : hid O H a = some o ↔ ¬ O a ∧ H a = some o := by
  unfold hid
  by_cases h : O a
  · rw [if_pos h]; exact ⟨(fun e => by cases e), fun e => absurd h e.1⟩
  · rw [if_neg h]; exact ⟨fun e => ⟨h, e⟩, fun e => e.2⟩
theorem hid_sub {O : Addr → Prop} {H : Hp} : Ex (hid O H) H := fun a o h => (hid_some.mp h).2
theorem hid_ex {O : Addr → Prop} {H H' : Hp} (e : Ex H H') : Ex (hid O H) (hid O H') := fun a o h => hid_some.mpr ⟨(hid_some.mp h).1, e a o (hid_some.mp h).2⟩
theorem hid_anti {O O' : Addr → Prop} {H : Hp} (h : ∀ a o, H a = some o → O' a → O a) : Ex (hid O H) (hid O' H) := fun a o e => hid_some.mpr ⟨fun q => (hid_some.mp e).1 (h a o (hid_some.mp e).2 q), (hid_some.mp e).2⟩
theorem hid_upd {O : Addr → Prop} {H : Hp} {p : Addr} {o : HO} (h : O p) : hid O (upd H p o) = hid O H := by
  funext a
  unfold hid
  by_cases q : O a
  · rw [if_pos q, if_pos q]
  · rw [if_neg q, if_neg q, upd_ne fun e => q (by rw [e]; exact h)]

/-! ### slots -/
inductive Sl where
  /-- nothing is known -/
  | no
  /-- data that no one changes -/
  | val (d : PyData)
  /-- a list of this slot's own, that may be changed -/
  | own (ds : List PyData)
  /-- the list of two ints at p -/
  | two (p : Addr)
structure OwnAt (B : Hp) (O : Addr → Prop) (o : Option (Option V)) (p : Addr) : Prop where
  ref : o = some (some (.ref p))
  own : O p
  new : B p = none
def SlIs (B : Hp) (O : Addr → Prop) (H : Hp) (o : Option (Option V)) : Sl → Prop
  | .no => True
  | .val d => ∃ v, o = some (some v) ∧ Rp (hid O H) v d
  | .own ds => ∃ p xs, OwnAt B O o p ∧ H p = some (.lst xs) ∧ RpAll (hid O H) xs ds
  | .two p => OwnAt B O o p ∧ ∃ a b, H p = some (.lst [.int a, .int b])
def Sl.mine : Sl → Bool
  | .own _ => true
  | .two _ => true
  | _ => false
/-- B: what stood at the entry (the own lists left out); C: the caller's own lists; O: those and our own -/
structure Sit (B : Hp) (C O : Addr → Prop) (H : Hp) (σ : L2.St) (es : List Sl) : Prop where
  base : Ex B H
  sub : ∀ a, C a → O a
  cdom : ∀ a, C a → ∃ o, B a = some o
  dom : ∀ a, O a → ∃ o, H a = some o
  fresh : ∀ a, O a → C a ∨ B a = none
  len : σ.length = es.length
  slot : ∀ (i : Nat) (e : Sl), es[i]? = some e → SlIs B O H σ[i]? e
  dis : ∀ (i j : Nat) (e f : Sl) (p : Addr), es[i]? = some e → es[j]? = some f → e.mine = true → f.mine = true → σ[i]? = some (some (.ref p)) → σ[j]? = some (some (.ref p)) → i = j
theorem SlIs.mono {B : Hp} {O : Addr → Prop} {H H' : Hp} {o : Option (Option V)} (e : Ex H H') : ∀ {s : Sl}, SlIs B O H o s → SlIs B O H' o s
  | .no, _ => trivial
  | .val _, ⟨v, h, r⟩ => ⟨v, h, r.mono (hid_ex e)⟩
  | .own _, ⟨p, xs, h, q, r⟩ => ⟨p, xs, h, e _ _ q, r.mono (hid_ex e)⟩
  | .two _, ⟨h, a, b, q⟩ => ⟨h, a, b, e _ _ q⟩
section
variable {B : Hp} {C O : Addr → Prop} {H H' : Hp} {σ : L2.St} {es : List Sl}
theorem Sit.mono (S : Sit B C O H σ es) (e : Ex H H') : Sit B C O H' σ es :=
  ⟨S.base.trans e, S.sub, S.cdom, fun a h => let ⟨o, q⟩ := S.dom a h; ⟨o, e a o q⟩, S.fresh, S.len, fun i s h => (S.slot i s h).mono e, S.dis⟩
theorem Sit.notC (S : Sit B C O H σ es) {o : Option (Option V)} {p : Addr} (w : OwnAt B O o p) : ¬ C p := fun h => by
  obtain ⟨u, q⟩ := S.cdom p h
  rw [w.new] at q; cases q
/-- a slot gets a value that no one changes -/
theorem Sit.setVal (S : Sit B C O H σ es) {i : Nat} {v : V} {d : PyData} (hv : Rp (hid O H) v d) : Sit B C O H (σ.set i (some v)) (es.set i (.val d)) := by
  refine ⟨S.base, S.sub, S.cdom, S.dom, S.fresh, by rw [List.length_set, List.length_set]; exact S.len, fun j s h => ?_, fun j k e f p h1 h2 m1 m2 q1 q2 => ?_⟩
  · by_cases c : i = j
    · subst c
      have hi : i < es.length := by
        have := (List.getElem?_eq_some_iff.mp h).1
        rwa [List.length_set] at this
      rw [List.getElem?_set_self hi] at h
      cases h
      exact ⟨v, by rw [List.getElem?_set_self (by rw [S.len]; exact hi)], hv⟩
    · rw [List.getElem?_set_ne c] at h ⊢
      exact S.slot j s h
  · have no : ∀ {k : Nat} {e : Sl}, (es.set i (.val d))[k]? = some e → e.mine = true → i ≠ k := fun {k e} h m c => by
      subst c
      have hi : i < es.length := by
        have := (List.getElem?_eq_some_iff.mp h).1
        rwa [List.length_set] at this
      rw [List.getElem?_set_self hi] at h
      cases h; cases m
    have n1 := no h1 m1
    have n2 := no h2 m2
    rw [List.getElem?_set_ne n1] at h1 q1
    rw [List.getElem?_set_ne n2] at h2 q2
    exact S.dis j k e f p h1 h2 m1 m2 q1 q2
/-- what is known of a slot is forgotten -/
theorem Sit.setNo (S : Sit B C O H σ es) {i : Nat} {o : Option V} : Sit B C O H (σ.set i o) (es.set i .no) := by
  refine ⟨S.base, S.sub, S.cdom, S.dom, S.fresh, by rw [List.length_set, List.length_set]; exact S.len, fun j s h => ?_, fun j k e f p h1 h2 m1 m2 q1 q2 => ?_⟩
  · by_cases c : i = j
    · subst c
      have hi : i < es.length := by
        have := (List.getElem?_eq_some_iff.mp h).1
        rwa [List.length_set] at this
      rw [List.getElem?_set_self hi] at h
      cases h
      trivial
    · rw [List.getElem?_set_ne c] at h ⊢
      exact S.slot j s h
  · have no : ∀ {k : Nat} {e : Sl}, (es.set i .no)[k]? = some e → e.mine = true → i ≠ k := fun {k e} h m c => by
      subst c
      have hi : i < es.length := by
        have := (List.getElem?_eq_some_iff.mp h).1
        rwa [List.length_set] at this
      rw [List.getElem?_set_self hi] at h
      cases h; cases m
    have n1 := no h1 m1
    have n2 := no h2 m2
    rw [List.getElem?_set_ne n1] at h1 q1
    rw [List.getElem?_set_ne n2] at h2 q2
    exact S.dis j k e f p h1 h2 m1 m2 q1 q2
theorem Sit.forget (S : Sit B C O H σ es) {i : Nat} : Sit B C O H σ (es.set i .no) := by
  by_cases hi : i < σ.length
  · have e : σ = σ.set i σ[i] := (List.set_getElem_self hi).symm
    have := S.setNo (i := i) (o := σ[i])
    rw [← e] at this
    exact this
  · have : es.set i .no = es := List.set_eq_of_length_le (by rw [← S.len]; omega)
    rw [this]; exact S
/-- one more address is hidden: it is new -/
theorem Sit.hide (S : Sit B C O H σ es) {p : Addr} {o : HO} (hp : H p = none) (e : Ex H H') (hp' : H' p = some o) : Sit B C (fun a => O a ∨ a = p) H' σ es := by
  have ex : Ex (hid O H) (hid (fun a => O a ∨ a = p) H') := fun a u h => by
    obtain ⟨h1, h2⟩ := hid_some.mp h
    refine hid_some.mpr ⟨fun q => q.elim h1 fun z => ?_, e a u h2⟩
    rw [z, hp] at h2; cases h2
  refine ⟨S.base.trans e, fun a h => .inl (S.sub a h), S.cdom, fun a h => ?_, fun a h => ?_, S.len, fun i s h => ?_, S.dis⟩
  · rcases h with h | h
    · obtain ⟨o, q⟩ := S.dom a h; exact ⟨o, e a o q⟩
    · subst h; exact ⟨o, hp'⟩
  · rcases h with h | h
    · exact S.fresh a h
    · subst h; exact .inr (fresh_back S.base hp)
  · have q := S.slot i s h
    cases s with
    | no => trivial
    | val d => obtain ⟨v, h1, r⟩ := q; exact ⟨v, h1, r.mono ex⟩
    | own ds => obtain ⟨p', xs, ⟨a1, a2, a3⟩, h2, r⟩ := q; exact ⟨p', xs, ⟨a1, .inl a2, a3⟩, e _ _ h2, r.mono ex⟩
    | two p' => obtain ⟨⟨a1, a2, a3⟩, a, b, h2⟩ := q; exact ⟨⟨a1, .inl a2, a3⟩, a, b, e _ _ h2⟩
/-- a slot gets a new list of its own -/
theorem Sit.setOwn (S : Sit B C O H σ es) {i : Nat} {p : Addr} {xs : List V} {ds : List PyData} (hp : H p = none) (e : Ex H H') (hp' : H' p = some (.lst xs)) (r : RpAll (hid (fun a => O a ∨ a = p) H') xs ds) :
    Sit B C (fun a => O a ∨ a = p) H' (σ.set i (some (.ref p))) (es.set i (.own ds)) := by
  have S' := S.hide hp e hp'
  have not_p : ∀ (j : Nat) (s : Sl), es[j]? = some s → s.mine = true → σ[j]? ≠ some (some (.ref p)) := fun j s h m q => by
    have k := S.slot j s h
    have : O p := by
      cases s with
      | no => cases m
      | val d => cases m
      | own ds => obtain ⟨p', xs, ⟨a1, a2, a3⟩, _⟩ := k; rw [a1] at q; cases q; exact a2
      | two p' => obtain ⟨⟨a1, a2, a3⟩, _⟩ := k; rw [a1] at q; cases q; exact a2
    obtain ⟨o, q⟩ := S.dom p this
    rw [hp] at q; cases q
  refine ⟨S'.base, S'.sub, S'.cdom, S'.dom, S'.fresh, by rw [List.length_set, List.length_set]; exact S.len, fun j s h => ?_, fun j k s f q h1 h2 m1 m2 q1 q2 => ?_⟩
  · by_cases c : i = j
    · subst c
      have hi : i < es.length := by
        have := (List.getElem?_eq_some_iff.mp h).1
        rwa [List.length_set] at this
      rw [List.getElem?_set_self hi] at h
      cases h
      exact ⟨p, xs, ⟨by rw [List.getElem?_set_self (by rw [S.len]; exact hi)], .inr rfl, fresh_back S.base hp⟩, hp', r⟩
    · rw [List.getElem?_set_ne c] at h ⊢
      exact S'.slot j s h
  · by_cases c1 : i = j
    · by_cases c2 : i = k
      · rw [← c1, ← c2]
      · subst c1
        have hi : i < σ.length := by
          have := (List.getElem?_eq_some_iff.mp q1).1
          rwa [List.length_set] at this
        rw [List.getElem?_set_self hi] at q1
        cases q1
        rw [List.getElem?_set_ne c2] at h2 q2
        exact absurd q2 (not_p k f h2 m2)
    · rw [List.getElem?_set_ne c1] at h1 q1
      by_cases c2 : i = k
      · subst c2
        have hi : i < σ.length := by
          have := (List.getElem?_eq_some_iff.mp q2).1
          rwa [List.length_set] at this
        rw [List.getElem?_set_self hi] at q2
        cases q2
        exact absurd q1 (not_p j s h1 m1)
      · rw [List.getElem?_set_ne c2] at h2 q2
        exact S.dis j k s f q h1 h2 m1 m2 q1 q2
/-- an own list is written -/
theorem Sit.write (S : Sit B C O H σ es) {i : Nat} {p : Addr} {xs : List V} {ds' ds : List PyData} (hi : es[i]? = some (.own ds')) (hp : σ[i]? = some (some (.ref p))) (r : RpAll (hid O H) xs ds) : Sit B C O (upd H p (.lst xs)) σ (es.set i (.own ds)) := by
  obtain ⟨p', ys, w, hpl, _⟩ := S.slot i _ hi
  have e : p' = p := by have := w.ref; rw [hp] at this; cases this; rfl
  subst e
  have hh := hid_upd (H := H) (o := .lst xs) w.own
  have hil : i < es.length := (List.getElem?_eq_some_iff.mp hi).1
  refine ⟨fun a o h => ?_, S.sub, S.cdom, fun a h => ?_, S.fresh, by rw [List.length_set]; exact S.len, fun j s h => ?_, fun j k s f q h1 h2 m1 m2 q1 q2 => ?_⟩
  · rw [upd_ne fun z => by rw [z, w.new] at h; cases h]
    exact S.base a o h
  · by_cases c : a = p'
    · subst c; exact ⟨_, upd_same⟩
    · rw [upd_ne c]; exact S.dom a h
  · by_cases c : i = j
    · subst c
      rw [List.getElem?_set_self hil] at h
      cases h
      exact ⟨p', xs, w, upd_same, by rw [hh]; exact r⟩
    · rw [List.getElem?_set_ne c] at h
      have q := S.slot j s h
      have ne : ∀ p2, s.mine = true → σ[j]? = some (some (.ref p2)) → p2 ≠ p' := fun p2 m z1 z2 => by
        subst z2
        exact c (S.dis i j _ s p2 hi h rfl m hp z1)
      cases s with
      | no => trivial
      | val d => obtain ⟨v, h1, r⟩ := q; exact ⟨v, h1, by rw [hh]; exact r⟩
      | own d2 => obtain ⟨p2, zs, w2, h2, r2⟩ := q; exact ⟨p2, zs, w2, by rw [upd_ne (ne p2 rfl w2.ref)]; exact h2, by rw [hh]; exact r2⟩
      | two p2 => obtain ⟨w2, a, b, h2⟩ := q; exact ⟨w2, a, b, by rw [upd_ne (ne p2 rfl w2.ref)]; exact h2⟩
  · have back : ∀ {k : Nat} {e : Sl}, (es.set i (.own ds))[k]? = some e → e.mine = true → ∃ e', es[k]? = some e' ∧ e'.mine = true := fun {k e} h m => by
      by_cases c : i = k
      · subst c; exact ⟨_, hi, rfl⟩
      · rw [List.getElem?_set_ne c] at h; exact ⟨e, h, m⟩
    obtain ⟨s', h1', m1'⟩ := back h1 m1
    obtain ⟨f', h2', m2'⟩ := back h2 m2
    exact S.dis j k s' f' q h1' h2' m1' m2' q1 q2
/-- the two ints are written -/
theorem Sit.writeTwo (S : Sit B C O H σ es) {i : Nat} {p : Addr} {a b : Int} (hi : es[i]? = some (.two p)) : Sit B C O (upd H p (.lst [.int a, .int b])) σ es := by
  obtain ⟨w, _⟩ := S.slot i _ hi
  have hh := hid_upd (H := H) (o := .lst [.int a, .int b]) w.own
  refine ⟨fun a o h => ?_, S.sub, S.cdom, fun a h => ?_, S.fresh, S.len, fun j s h => ?_, S.dis⟩
  · rw [upd_ne fun z => by rw [z, w.new] at h; cases h]
    exact S.base a o h
  · by_cases c : a = p
    · subst c; exact ⟨_, upd_same⟩
    · rw [upd_ne c]; exact S.dom a h
  · have q := S.slot j s h
    have ne : ∀ p2, s.mine = true → σ[j]? = some (some (.ref p2)) → i ≠ j → p2 ≠ p := fun p2 m z1 c z2 => by
      subst z2
      exact c (S.dis i j _ s p2 hi h rfl m w.ref z1)
    cases s with
    | no => trivial
    | val d => obtain ⟨v, h1, r⟩ := q; exact ⟨v, h1, by rw [hh]; exact r⟩
    | own d2 =>
      have c : i ≠ j := fun c => by subst c; rw [hi] at h; cases h
      obtain ⟨p2, zs, w2, h2, r2⟩ := q; exact ⟨p2, zs, w2, by rw [upd_ne (ne p2 rfl w2.ref c)]; exact h2, by rw [hh]; exact r2⟩
    | two p2 =>
      obtain ⟨w2, x, y, h2⟩ := q
      by_cases c : p2 = p
      · subst c; exact ⟨w2, a, b, upd_same⟩
      · exact ⟨w2, x, y, by rw [upd_ne c]; exact h2⟩
/-- an own list is given up: no one changes it from here on -/
theorem Sit.freeze (S : Sit B C O H σ es) {i : Nat} {ds : List PyData} (hi : es[i]? = some (.own ds)) : ∃ O', Sit B C O' H σ (es.set i (.val (.list ds))) := by
  obtain ⟨p, xs, w, hpl, r⟩ := S.slot i _ hi
  have hil : i < es.length := (List.getElem?_eq_some_iff.mp hi).1
  have ex : Ex (hid O H) (hid (fun a => O a ∧ a ≠ p) H) := hid_anti fun a o _ q => q.1
  refine ⟨fun a => O a ∧ a ≠ p, S.base, fun a h => ⟨S.sub a h, fun z => S.notC w (z ▸ h)⟩, S.cdom, fun a h => S.dom a h.1, fun a h => S.fresh a h.1, by rw [List.length_set]; exact S.len, fun j s h => ?_, fun j k s f q h1 h2 m1 m2 q1 q2 => ?_⟩
  · by_cases c : i = j
    · subst c
      rw [List.getElem?_set_self hil] at h
      cases h
      exact ⟨.ref p, w.ref, .lst (hid_some.mpr ⟨fun z => z.2 rfl, hpl⟩) (r.mono ex)⟩
    · rw [List.getElem?_set_ne c] at h
      have q := S.slot j s h
      have ne : ∀ p2, s.mine = true → σ[j]? = some (some (.ref p2)) → p2 ≠ p := fun p2 m z1 z2 => by
        subst z2
        exact c (S.dis i j _ s p2 hi h rfl m w.ref z1)
      cases s with
      | no => trivial
      | val d => obtain ⟨v, h1, r⟩ := q; exact ⟨v, h1, r.mono ex⟩
      | own d2 => obtain ⟨p2, zs, w2, h2, r2⟩ := q; exact ⟨p2, zs, ⟨w2.ref, ⟨w2.own, ne p2 rfl w2.ref⟩, w2.new⟩, h2, r2.mono ex⟩
      | two p2 => obtain ⟨w2, a, b, h2⟩ := q; exact ⟨⟨w2.ref, ⟨w2.own, ne p2 rfl w2.ref⟩, w2.new⟩, a, b, h2⟩
  · have back : ∀ {k : Nat} {e : Sl}, (es.set i (.val (.list ds)))[k]? = some e → e.mine = true → es[k]? = some e := fun {k e} h m => by
      by_cases c : i = k
      · subst c; rw [List.getElem?_set_self hil] at h; cases h; cases m
      · rw [List.getElem?_set_ne c] at h; exact h
    exact S.dis j k s f q (back h1 m1) (back h2 m2) m1 m2 q1 q2
/-- from here on all that no one changes counts as what stood -/
theorem Sit.rebase (S : Sit B C O H σ es) : Sit (hid (fun a => O a ∧ ¬ C a) H) C O H σ es := by
  refine ⟨hid_sub, S.sub, fun a h => ?_, S.dom, fun a h => ?_, S.len, fun i s h => ?_, S.dis⟩
  · obtain ⟨o, q⟩ := S.cdom a h
    exact ⟨o, hid_some.mpr ⟨fun z => z.2 h, S.base a o q⟩⟩
  · by_cases c : C a
    · exact .inl c
    · refine .inr ?_
      cases q : hid (fun a => O a ∧ ¬ C a) H a with
      | none => rfl
      | some o => exact absurd ⟨h, c⟩ (hid_some.mp q).1
  · have q := S.slot i s h
    have nw : ∀ {o : Option (Option V)} {p : Addr}, OwnAt B O o p → OwnAt (hid (fun a => O a ∧ ¬ C a) H) O o p := fun {o p} w => by
      refine ⟨w.ref, w.own, ?_⟩
      cases q : hid (fun a => O a ∧ ¬ C a) H p with
      | none => rfl
      | some o => exact absurd ⟨w.own, S.notC w⟩ (hid_some.mp q).1
    cases s with
    | no => trivial
    | val d => exact q
    | own d2 => obtain ⟨p2, zs, w2, q2⟩ := q; exact ⟨p2, zs, nw w2, q2⟩
    | two p2 => obtain ⟨w2, q2⟩ := q; exact ⟨nw w2, q2⟩
theorem Sit.base_ex (S : Sit B C O H σ es) : Ex B (hid (fun a => O a ∧ ¬ C a) H) := fun a o h => by
  refine hid_some.mpr ⟨fun z => ?_, S.base a o h⟩
  rcases S.fresh a z.1 with q | q
  · exact z.2 q
  · rw [q] at h; cases h
/-- back to less that stood -/
theorem Sit.debase {B' : Hp} {O' : Addr → Prop} {H' : Hp} {σ' : L2.St} {es' : List Sl} (S : Sit B' C O' H' σ' es') (e : Ex B B') (hc : ∀ a, C a → ∃ o, B a = some o) : Sit B C O' H' σ' es' := by
  have nn : ∀ a, B' a = none → B a = none := fun a h => fresh_back e h
  refine ⟨e.trans S.base, S.sub, hc, S.dom, fun a h => (S.fresh a h).imp id (nn a), S.len, fun i s h => ?_, S.dis⟩
  have q := S.slot i s h
  cases s with
  | no => trivial
  | val d => exact q
  | own d2 => obtain ⟨p2, zs, w2, q2⟩ := q; exact ⟨p2, zs, ⟨w2.ref, w2.own, nn _ w2.new⟩, q2⟩
  | two p2 => obtain ⟨w2, q2⟩ := q; exact ⟨⟨w2.ref, w2.own, nn _ w2.new⟩, q2⟩
end
end PcW
set_option Elab.async false
set_option linter.all false
set_option maxRecDepth 100000
set_option maxHeartbeats 4000000
/-! Expressions by what data they give. -/
namespace PcW
open PySem PySem.Spec PyProof.Rows L2
section
variable {X : Cx} {es : List Sl}

/-! ### what an expression, a test, arguments, statements want, told by their own run -/
def wE (X : Cx) (e : Expr) : TE := fun σ H Q => ∀ (pins : List (Addr × Obj)) (s : Shared), Inv X pins σ H s → wpAny (model X.prog X.w) X.A (eval e X.env) (EP X pins σ Q) X.xe s
def wT (X : Cx) (e : Expr) : TT := fun σ H Q => ∀ (pins : List (Addr × Obj)) (s : Shared), Inv X pins σ H s → wpAny (model X.prog X.w) X.A (isTrue e X.env (eval e X.env)) (TP X pins σ Q) X.xe s
def wW (X : Cx) (e : Expr) : TT := fun σ H Q => ∀ (whole : Sem Value) (pins : List (Addr × Obj)) (s : Shared), Inv X pins σ H s → wpAny (model X.prog X.w) X.A (isTrue e X.env whole) (TP X pins σ Q) X.xe s
def wA (X : Cx) (l : List Expr) : TA := fun σ H Q => ∀ (pos : Pos) (pins : List (Addr × Obj)) (s : Shared), Inv X pins σ H s → wpAny (model X.prog X.w) X.A (spliced (backTo pos (starEach l X.env))) (AP X pins σ Q) X.xe s
theorem pe_w (e : Expr) : PE X e (wE X e) := ⟨fun pins s _ _ _ I h => h pins s I⟩
theorem pt_w (e : Expr) : PT X e (wT X e) := ⟨fun pins s _ _ _ I h => h pins s I⟩
theorem pw_w (e : Expr) : PW X e (wW X e) := ⟨fun whole pins s _ _ _ I h => h whole pins s I⟩
theorem pa_w (l : List Expr) : PA X l (wA X l) := ⟨fun pos pins s _ _ _ I h => h pos pins s I⟩
theorem wE_of {e : Expr} {t : TE} {σ : L2.St} {H : Hp} {Q : VK} (h : PE X e t) (q : t σ H Q) : wE X e σ H Q := fun pins s I => h.run pins s σ H Q I q
theorem wT_of {e : Expr} {t : TT} {σ : L2.St} {H : Hp} {Q : Bool → Hp → Prop} (h : PT X e t) (q : t σ H Q) : wT X e σ H Q := fun pins s I => h.run pins s σ H Q I q
theorem wW_of {e : Expr} {t : TT} {σ : L2.St} {H : Hp} {Q : Bool → Hp → Prop} (h : PW X e t) (q : t σ H Q) : wW X e σ H Q := fun whole pins s I => h.run whole pins s σ H Q I q
theorem wA_of {l : List Expr} {t : TA} {σ : L2.St} {H : Hp} {Q : List V → Hp → Prop} (h : PA X l t) (q : t σ H Q) : wA X l σ H Q := fun pos pins s I => h.run pos pins s σ H Q I q

/-! ### the judgements -/
/-- e gives data d and changes nothing -/
def PV (X : Cx) (es : List Sl) (e : Expr) (d : PyData) : Prop := ∀ (B : Hp) (C O : Addr → Prop) (σ : L2.St) (H : Hp), Sit B C O H σ es → ∀ Q : VK, (∀ v H', Ex H H' → Rp (hid O H') v d → Q v H') → wE X e σ H Q
/-- e gives a list (someone may own it) -/
def PL (X : Cx) (es : List Sl) (e : Expr) (ds : List PyData) : Prop := ∀ (B : Hp) (C O : Addr → Prop) (σ : L2.St) (H : Hp), Sit B C O H σ es → ∀ Q : VK, (∀ p xs H', Ex H H' → H' p = some (.lst xs) → RpAll (hid O H') xs ds → Q (.ref p) H') → wE X e σ H Q
/-- e gives a new list -/
def PF (X : Cx) (es : List Sl) (e : Expr) (ds : List PyData) : Prop := ∀ (B : Hp) (C O : Addr → Prop) (σ : L2.St) (H : Hp), Sit B C O H σ es → ∀ Q : VK, (∀ p xs H', H p = none → Ex H H' → H' p = some (.lst xs) → RpAll (hid (fun a => O a ∨ a = p) H') xs ds → Q (.ref p) H') → wE X e σ H Q
def PB (X : Cx) (es : List Sl) (e : Expr) (b : Bool) : Prop := ∀ (B : Hp) (C O : Addr → Prop) (σ : L2.St) (H : Hp), Sit B C O H σ es → ∀ Q : Bool → Hp → Prop, (∀ H', Ex H H' → Q b H') → wT X e σ H Q
def PBw (X : Cx) (es : List Sl) (e : Expr) (b : Bool) : Prop := ∀ (B : Hp) (C O : Addr → Prop) (σ : L2.St) (H : Hp), Sit B C O H σ es → ∀ Q : Bool → Hp → Prop, (∀ H', Ex H H' → Q b H') → wW X e σ H Q
def PVs (X : Cx) (es : List Sl) (l : List Expr) (ds : List PyData) : Prop := ∀ (B : Hp) (C O : Addr → Prop) (σ : L2.St) (H : Hp), Sit B C O H σ es → ∀ Q : List V → Hp → Prop, (∀ vs H', Ex H H' → RpAll (hid O H') vs ds → Q vs H') → wA X l σ H Q

theorem hid_more {O : Addr → Prop} {H : Hp} {p : Addr} : Ex (hid (fun a => O a ∨ a = p) H) (hid O H) := hid_anti fun a o _ q => .inl q
theorem hid_new {O : Addr → Prop} {H H' : Hp} {p : Addr} (hp : H p = none) (e : Ex H H') : Ex (hid O H) (hid (fun a => O a ∨ a = p) H') := fun a u h => by
  obtain ⟨h1, h2⟩ := hid_some.mp h
  refine hid_some.mpr ⟨fun q => q.elim h1 fun z => ?_, e a u h2⟩
  rw [z, hp] at h2; cases h2
theorem hid_at {O : Addr → Prop} {H H' : Hp} {p : Addr} {o : HO} (dm : ∀ a, O a → ∃ o, H a = some o) (hp : H p = none) (h : H' p = some o) : hid O H' p = some o :=
  hid_some.mpr ⟨fun z => (by obtain ⟨o, w⟩ := dm p z; rw [hp] at w; cases w), h⟩
variable {a b c e i : Expr} {d d1 d2 : PyData} {ds : List PyData} {pos : Pos}
theorem pv_is (h : PV X es e d) (q : d = d1) : PV X es e d1 := q ▸ h
theorem pb_is {x y : Bool} (h : PB X es e x) (q : x = y) : PB X es e y := q ▸ h
theorem pf_is {ds' : List PyData} (h : PF X es e ds) (q : ds = ds') : PF X es e ds' := q ▸ h
theorem pl_is {ds' : List PyData} (h : PL X es e ds) (q : ds = ds') : PL X es e ds' := q ▸ h
theorem PF.pl (h : PF X es e ds) : PL X es e ds := fun B C O σ H S Q q => h B C O σ H S Q fun p xs H' _ e1 h1 r => q p xs H' e1 h1 (r.mono hid_more)
theorem PF.pv (h : PF X es e ds) : PV X es e (.list ds) := fun B C O σ H S Q q => h B C O σ H S Q fun p xs H' hp e1 h1 r =>
  q _ H' e1 (.lst (hid_at S.dom hp h1) (r.mono hid_more))
theorem PV.pl (h : PV X es e (.list ds)) : PL X es e ds := fun B C O σ H S Q q => h B C O σ H S Q fun v H' e1 r => by
  obtain ⟨a, xs, rfl, h1, r⟩ := rp_lst r
  exact q a xs H' e1 (hid_sub _ _ h1) r

/-! ### constants, names -/
theorem pv_int {i : Int} {k : Nat} : PV X es (.Constant (.int i) k pos) (.int i) := fun B C O σ H S Q q => wE_of pe_int (q _ H (Ex.refl H) (.int i))
theorem pv_bl {i : Bool} {k : Nat} : PV X es (.Constant (.bool i) k pos) (.bool i) := fun B C O σ H S Q q => wE_of pe_bl (q _ H (Ex.refl H) (.bl i))
theorem pv_non {k : Nat} : PV X es (.Constant .none k pos) .none := fun B C O σ H S Q q => wE_of pe_non (q _ H (Ex.refl H) .non)
theorem pv_str {x : Str} {k : Nat} : PV X es (.Constant (.str x) k pos) (.str x) := fun B C O σ H S Q q => wE_of pe_str (q _ H (Ex.refl H) (.str x))
theorem pv_var (i : Nat) {x : Str} (hs : es[i]? = some (.val d) := by rfl) (hN : X.N[i]? = some x := by rfl) (hv : Vis X.env.scope x := by first | exact Or.inl rfl | exact Or.inr (Or.inl rfl) | exact Or.inr (Or.inr rfl)) (hd : (x == ("__debug__" : Str)) = false := by decide)
    (hcd : (x == ("__classdict__" : Str)) = false := by decide) : PV X es (.Name x pos) d := fun B C O σ H S Q q => by
  obtain ⟨v, h, r⟩ := S.slot i _ hs
  exact wE_of (pe_var hN hv hd hcd) ⟨v, h, q v H (Ex.refl H) r⟩
theorem pl_own (i : Nat) {x : Str} (hs : es[i]? = some (.own ds) := by rfl) (hN : X.N[i]? = some x := by rfl) (hv : Vis X.env.scope x := by first | exact Or.inl rfl | exact Or.inr (Or.inl rfl) | exact Or.inr (Or.inr rfl)) (hd : (x == ("__debug__" : Str)) = false := by decide)
    (hcd : (x == ("__classdict__" : Str)) = false := by decide) : PL X es (.Name x pos) ds := fun B C O σ H S Q q => by
  obtain ⟨p, xs, w, h, r⟩ := S.slot i _ hs
  exact wE_of (pe_var hN hv hd hcd) ⟨_, w.ref, q p xs H (Ex.refl H) h r⟩

/-! ### operators -/
theorem pv_bin {op : Operator} {r : R2} (ho : OpR X (binaryOp op) r) (ha : PV X es a d1) (hb : PV X es b d2)
    (hr : ∀ (v1 v2 : V) (O : Addr → Prop) (H : Hp), (∀ a, O a → ∃ o, H a = some o) → Rp (hid O H) v1 d1 → Rp (hid O H) v2 d2 → ∀ Q : VK, (∀ v H', Ex H H' → Rp (hid O H') v d → Q v H') → r v1 v2 H Q) : PV X es (.BinOp a op b pos) d := fun B C O σ H S Q q =>
  wE_of (pe_op ho (pe_w a) (pe_w b)) (ha B C O σ H S _ fun v1 H1 e1 r1 => hb B C O σ H1 (S.mono e1) _ fun v2 H2 e2 r2 =>
    hr v1 v2 O H2 (S.mono (e1.trans e2)).dom (r1.mono (hid_ex e2)) r2 Q fun v H' e3 r3 => q v H' ((e1.trans e2).trans e3) r3)
theorem pv_cmp {op : CmpOp} {r : R2} (ho : OpR X (compareOp op) r) (ha : PV X es a d1) (hb : PV X es b d2) (hm : behindInMarks op b = false)
    (hr : ∀ (v1 v2 : V) (O : Addr → Prop) (H : Hp), (∀ a, O a → ∃ o, H a = some o) → Rp (hid O H) v1 d1 → Rp (hid O H) v2 d2 → ∀ Q : VK, (∀ v H', Ex H H' → Rp (hid O H') v d → Q v H') → r v1 v2 H Q) : PV X es (.Compare a [op] [b] pos) d := fun B C O σ H S Q q =>
  wE_of (pe_cmpR ho (pe_w a) (pe_w b) hm) (ha B C O σ H S _ fun v1 H1 e1 r1 => hb B C O σ H1 (S.mono e1) _ fun v2 H2 e2 r2 =>
    hr v1 v2 O H2 (S.mono (e1.trans e2)).dom (r1.mono (hid_ex e2)) r2 Q fun v H' e3 r3 => q v H' ((e1.trans e2).trans e3) r3)
theorem pb_cmp {op : CmpOp} {r : R2} {x : Bool} (ho : OpR X (compareOp op) r) (ha : PV X es a d1) (hb : PV X es b d2) (hm : behindInMarks op b = false)
    (hr : ∀ (v1 v2 : V) (O : Addr → Prop) (H : Hp), (∀ a, O a → ∃ o, H a = some o) → Rp (hid O H) v1 d1 → Rp (hid O H) v2 d2 → ∀ Q : VK, Q (.bl x) H → r v1 v2 H Q) : PB X es (.Compare a [op] [b] pos) x := fun B C O σ H S Q q =>
  wT_of (pt_cmpR ho (pe_w a) (pe_w b) hm) (ha B C O σ H S _ fun v1 H1 e1 r1 => hb B C O σ H1 (S.mono e1) _ fun v2 H2 e2 r2 =>
    hr v1 v2 O H2 (S.mono (e1.trans e2)).dom (r1.mono (hid_ex e2)) r2 _ ⟨x, rfl, q H2 (e1.trans e2)⟩)
section
variable {x y : Int}
theorem pv_add (ha : PV X es a (.int x)) (hb : PV X es b (.int y)) : PV X es (.BinOp a .Add b pos) (.int (x + y)) := pv_bin op_add ha hb fun v1 v2 O H _ r1 r2 Q q => by
  cases rp_int r1; cases rp_int r2; exact ⟨x, y, rfl, rfl, q _ H (Ex.refl H) (.int _)⟩
theorem pv_sub (ha : PV X es a (.int x)) (hb : PV X es b (.int y)) : PV X es (.BinOp a .Sub b pos) (.int (x - y)) := pv_bin op_sub ha hb fun v1 v2 O H _ r1 r2 Q q => by
  cases rp_int r1; cases rp_int r2; exact ⟨x, y, rfl, rfl, q _ H (Ex.refl H) (.int _)⟩
theorem pv_mul (hc : CMul x y) (ha : PV X es a (.int x)) (hb : PV X es b (.int y)) : PV X es (.BinOp a .Mult b pos) (.int (x * y)) := pv_bin op_mul ha hb fun v1 v2 O H _ r1 r2 Q q => by
  cases rp_int r1; cases rp_int r2; exact ⟨x, y, rfl, rfl, hc, q _ H (Ex.refl H) (.int _)⟩
theorem pv_mod (hc : 0 < y) (ha : PV X es a (.int x)) (hb : PV X es b (.int y)) : PV X es (.BinOp a .Mod b pos) (.int (x % y)) := pv_bin op_mod ha hb fun v1 v2 O H _ r1 r2 Q q => by
  cases rp_int r1; cases rp_int r2; exact ⟨x, y, rfl, rfl, hc, q _ H (Ex.refl H) (.int _)⟩
theorem pv_neg (ha : PV X es a (.int x)) : PV X es (.UnaryOp .USub a pos) (.int (-x)) := fun B C O σ H S Q q =>
  wE_of (pe_un un_neg (pe_w a)) (ha B C O σ H S _ fun v1 H1 e1 r1 => by cases rp_int r1; exact ⟨x, rfl, q _ H1 e1 (.int _)⟩)
theorem pb_eqI (ha : PV X es a (.int x)) (hb : PV X es b (.int y)) : PB X es (.Compare a [.Eq] [b] pos) (decide (x = y)) := pb_cmp op_eq ha hb (nomark _) fun v1 v2 O H _ r1 r2 Q q => by
  cases rp_int r1; cases rp_int r2
  refine ⟨rfl, ?_⟩
  rw [show decide (V.int x = V.int y) = decide (x = y) from by rw [dec_int, Bool.beq_eq_decide_eq]]; exact q
theorem pb_neI (ha : PV X es a (.int x)) (hb : PV X es b (.int y)) : PB X es (.Compare a [.NotEq] [b] pos) (!decide (x = y)) := pb_cmp op_ne ha hb (nomark _) fun v1 v2 O H _ r1 r2 Q q => by
  cases rp_int r1; cases rp_int r2
  refine ⟨rfl, ?_⟩
  rw [show decide (V.int x = V.int y) = decide (x = y) from by rw [dec_int, Bool.beq_eq_decide_eq]]; exact q
theorem pv_eqI (ha : PV X es a (.int x)) (hb : PV X es b (.int y)) : PV X es (.Compare a [.Eq] [b] pos) (.bool (decide (x = y))) := pv_cmp op_eq ha hb (nomark _) fun v1 v2 O H _ r1 r2 Q q => by
  cases rp_int r1; cases rp_int r2
  refine ⟨rfl, ?_⟩
  rw [show decide (V.int x = V.int y) = decide (x = y) from by rw [dec_int, Bool.beq_eq_decide_eq]]; exact q _ H (Ex.refl H) (.bl _)
theorem pv_gtI (ha : PV X es a (.int x)) (hb : PV X es b (.int y)) : PV X es (.Compare a [.Gt] [b] pos) (.bool (decide (y < x))) := pv_cmp op_gt ha hb (nomark _) fun v1 v2 O H _ r1 r2 Q q => by
  cases rp_int r1; cases rp_int r2; exact ⟨x, y, rfl, rfl, q _ H (Ex.refl H) (.bl _)⟩
theorem pb_gtI (ha : PV X es a (.int x)) (hb : PV X es b (.int y)) : PB X es (.Compare a [.Gt] [b] pos) (decide (y < x)) := pb_cmp op_gt ha hb (nomark _) fun v1 v2 O H _ r1 r2 Q q => by
  cases rp_int r1; cases rp_int r2; exact ⟨x, y, rfl, rfl, q⟩
theorem pb_geI (ha : PV X es a (.int x)) (hb : PV X es b (.int y)) : PB X es (.Compare a [.GtE] [b] pos) (decide (y ≤ x)) := pb_cmp op_ge ha hb (nomark _) fun v1 v2 O H _ r1 r2 Q q => by
  cases rp_int r1; cases rp_int r2; exact ⟨x, y, rfl, rfl, q⟩
theorem pb_ltI (ha : PV X es a (.int x)) (hb : PV X es b (.int y)) : PB X es (.Compare a [.Lt] [b] pos) (decide (x < y)) := pb_cmp op_lt ha hb (nomark _) fun v1 v2 O H _ r1 r2 Q q => by
  cases rp_int r1; cases rp_int r2; exact ⟨x, y, rfl, rfl, q⟩
theorem pb_leI (ha : PV X es a (.int x)) (hb : PV X es b (.int y)) : PB X es (.Compare a [.LtE] [b] pos) (decide (x ≤ y)) := pb_cmp op_le ha hb (nomark _) fun v1 v2 O H _ r1 r2 Q q => by
  cases rp_int r1; cases rp_int r2; exact ⟨x, y, rfl, rfl, q⟩
end
section
variable {x y : Bool}
theorem pv_isBl (ha : PV X es a (.bool x)) (hb : PV X es b (.bool y)) : PV X es (.Compare a [.Is] [b] pos) (.bool (decide (x = y))) := pv_cmp op_isBl ha hb (nomark _) fun v1 v2 O H _ r1 r2 Q q => by
  cases rp_bl r1; cases rp_bl r2; exact ⟨x, y, rfl, rfl, q _ H (Ex.refl H) (.bl _)⟩
theorem pb_isnBl (ha : PV X es a (.bool x)) (hb : PV X es b (.bool y)) : PB X es (.Compare a [.IsNot] [b] pos) (!decide (x = y)) := pb_cmp op_notBl ha hb (nomark _) fun v1 v2 O H _ r1 r2 Q q => by
  cases rp_bl r1; cases rp_bl r2; exact ⟨x, y, rfl, rfl, q⟩
end
/-! data compared -/
theorem pv_eqD (hu : X.A.units + 64 < cLine) (s1 : SeqAt.shaped d1 = true) (s2 : SeqAt.shaped d2 = true) (ha : PV X es a d1) (hb : PV X es b d2) : PV X es (.Compare a [.Eq] [b] pos) (.bool (PyData.eqv d1 d2)) := pv_cmp (op_eqD hu) ha hb (nomark _) fun v1 v2 O H _ r1 r2 Q q =>
  ⟨d1, d2, (r1.mono hid_sub).dp, (r2.mono hid_sub).dp, s1, s2, q _ H (Ex.refl H) (.bl _)⟩
theorem pb_neD (hu : X.A.units + 64 < cLine) (s1 : SeqAt.shaped d1 = true) (s2 : SeqAt.shaped d2 = true) (ha : PV X es a d1) (hb : PV X es b d2) : PB X es (.Compare a [.NotEq] [b] pos) (!PyData.eqv d1 d2) := pb_cmp (op_neD hu) ha hb (nomark _) fun v1 v2 O H _ r1 r2 Q q =>
  ⟨d1, d2, (r1.mono hid_sub).dp, (r2.mono hid_sub).dp, s1, s2, q⟩
theorem pb_inD (hu : X.A.units + 65 < cLine) (s1 : SeqAt.shaped d1 = true) (s2 : SeqAt.shaped (.list ds) = true) (ha : PV X es a d1) (hb : PV X es b (.list ds)) (hm : behindInMarks .In b = false := by rfl) : PB X es (.Compare a [.In] [b] pos) (ds.any fun z => PyData.eqv z d1) := pb_cmp (op_inD hu) ha hb hm fun v1 v2 O H _ r1 r2 Q q =>
  ⟨d1, ds, (r1.mono hid_sub).dp, (r2.mono hid_sub).dp, s1, s2, q⟩
theorem pb_niD (hu : X.A.units + 65 < cLine) (s1 : SeqAt.shaped d1 = true) (s2 : SeqAt.shaped (.list ds) = true) (ha : PV X es a d1) (hb : PV X es b (.list ds)) (hm : behindInMarks .NotIn b = false := by rfl) : PB X es (.Compare a [.NotIn] [b] pos) (!ds.any fun z => PyData.eqv z d1) := pb_cmp (op_notInD hu) ha hb hm fun v1 v2 O H _ r1 r2 Q q =>
  ⟨d1, ds, (r1.mono hid_sub).dp, (r2.mono hid_sub).dp, s1, s2, q⟩
/-- an int not in a tuple of ints -/
theorem pb_niT {x : Int} {ns : List Int} (ha : PV X es a (.int x)) (hb : PV X es b (.tuple (ns.map .int))) (hm : behindInMarks .NotIn b = false := by rfl) : PB X es (.Compare a [.NotIn] [b] pos) (!ns.contains x) := pb_cmp op_notIn_seq ha hb hm fun v1 v2 O H _ r1 r2 Q q => by
  cases rp_int r1
  obtain ⟨p, xs, rfl, h, r⟩ := rp_tup r2
  have ex := rpAll_ints r
  subst ex
  refine ⟨p, _, rfl, .inr (SqT.of (hid_sub _ _ h)), rfl, ?_, ?_⟩
  · rw [List.all_map, List.all_eq_true]; intro n _; rfl
  · rw [if_pos rfl]
    have : inV (.int x) (ns.map V.int) = ns.contains x := by
      unfold inV
      rw [List.any_map, Bool.eq_iff_iff, List.any_eq_true, List.contains_iff_mem]
      constructor
      · rintro ⟨n, hn, e⟩
        have e : (n == x) = true := e
        rw [beq_iff_eq] at e
        subst e; exact hn
      · intro h
        exact ⟨x, h, show (x == x) = true from beq_self_eq_true x⟩
    rw [this]; exact q

/-! ### tests -/
theorem pb_val {x : Bool} (h : PV X es e (.bool x)) (he : ∀ whole, isTrue e X.env whole = (do let v ← whole; standAt e.pos; holding [v] (truthy v)) := by intro _; rfl) : PB X es e x := fun B C O σ H S Q q =>
  wT_of (pt_val (pe_w e) he) (h B C O σ H S _ fun v H' e1 r => by cases rp_bl r; exact ⟨x, rfl, q H' e1⟩)
theorem pb_not {x : Bool} (h : PB X es e x) : PB X es (.UnaryOp .Not e pos) (!x) := fun B C O σ H S Q q => wT_of (pt_not (pt_w e)) (h B C O σ H S _ fun H' e1 => q H' e1)
theorem pb_w {x : Bool} (h : PBw X es e x) : PB X es e x := fun B C O σ H S Q q => wT_of (PW.pt (pw_w e)) (h B C O σ H S Q q)
theorem pbw_and1 {x : Bool} (h : PB X es e x) : PBw X es (.BoolOp .And [e] pos) x := fun B C O σ H S Q q => wW_of (pw_and1 (pt_w e)) (h B C O σ H S Q q)
theorem pbw_or1 {x : Bool} (h : PB X es e x) : PBw X es (.BoolOp .Or [e] pos) x := fun B C O σ H S Q q => wW_of (pw_or1 (pt_w e)) (h B C O σ H S Q q)
theorem pbw_and {x y : Bool} {l : List Expr} (h : PB X es a x) (h2 : x = true → PBw X es (.BoolOp .And (b :: l) pos) y) : PBw X es (.BoolOp .And (a :: b :: l) pos) (x && y) := fun B C O σ H S Q q =>
  wW_of (pw_and (pt_w a) (pw_w (.BoolOp .And (b :: l) pos))) (h B C O σ H S _ fun H1 e1 => by
    cases x with
    | true => rw [if_pos rfl]; exact h2 rfl B C O σ H1 (S.mono e1) Q fun H' e2 => q H' (e1.trans e2)
    | false => rw [if_neg Bool.false_ne_true]; exact q H1 e1)
theorem pbw_or {x y : Bool} {l : List Expr} (h : PB X es a x) (h2 : x = false → PBw X es (.BoolOp .Or (b :: l) pos) y) : PBw X es (.BoolOp .Or (a :: b :: l) pos) (x || y) := fun B C O σ H S Q q =>
  wW_of (pw_or (pt_w a) (pw_w (.BoolOp .Or (b :: l) pos))) (h B C O σ H S _ fun H1 e1 => by
    cases x with
    | true => rw [if_pos rfl]; exact q H1 e1
    | false => rw [if_neg Bool.false_ne_true]; exact h2 rfl B C O σ H1 (S.mono e1) Q fun H' e2 => q H' (e1.trans e2))
theorem pv_one {op : BoolOp} (h : PV X es e d) : PV X es (.BoolOp op [e] pos) d := fun B C O σ H S Q q => wE_of (pe_one (pe_w e)) (h B C O σ H S Q q)
theorem pv_and {x y : Bool} {l : List Expr} (h : PV X es a (.bool x)) (h2 : x = true → PV X es (.BoolOp .And (b :: l) pos) (.bool y)) : PV X es (.BoolOp .And (a :: b :: l) pos) (.bool (x && y)) := fun B C O σ H S Q q =>
  wE_of (pe_and (pe_w a) (pe_w (.BoolOp .And (b :: l) pos))) (h B C O σ H S _ fun v H1 e1 r => by
    cases rp_bl r
    refine ⟨x, rfl, ?_⟩
    cases x with
    | true => rw [if_pos rfl]; exact h2 rfl B C O σ H1 (S.mono e1) Q fun v H' e2 r => q v H' (e1.trans e2) r
    | false => rw [if_neg Bool.false_ne_true]; exact q _ H1 e1 (.bl false))
theorem pv_not {x : Bool} (h : PV X es e (.bool x)) : PV X es (.UnaryOp .Not e pos) (.bool (!x)) := fun B C O σ H S Q q =>
  wE_of (pe_not (pe_w e)) (h B C O σ H S _ fun v H1 e1 r => by cases rp_bl r; exact ⟨x, rfl, q _ H1 e1 (.bl _)⟩)
theorem pv_ifE {x : Bool} (h : PB X es c x) (h1 : x = true → PV X es a d) (h2 : x = false → PV X es b d) : PV X es (.IfExp c a b pos) d := fun B C O σ H S Q q =>
  wE_of (pe_ifExp (pt_w c) (pe_w a) (pe_w b)) (h B C O σ H S _ fun H1 e1 => by
    cases x with
    | true => rw [if_pos rfl]; exact h1 rfl B C O σ H1 (S.mono e1) Q fun v H' e2 r => q v H' (e1.trans e2) r
    | false => rw [if_neg Bool.false_ne_true]; exact h2 rfl B C O σ H1 (S.mono e1) Q fun v H' e2 r => q v H' (e1.trans e2) r)

/-! ### arguments, displays -/
theorem pvs_nil : PVs X es [] [] := fun B C O σ H S Q q => wA_of pa_nil (q _ H (Ex.refl H) .nil)
theorem pvs_cons {l : List Expr} (h : PV X es e d) (h2 : PVs X es l ds) (hs : starEach (e :: l) X.env = (false, eval e X.env) :: starEach l X.env := by rfl) : PVs X es (e :: l) (d :: ds) := fun B C O σ H S Q q =>
  wA_of (pa_cons (pe_w e) (pa_w l) hs) (h B C O σ H S _ fun v H1 e1 r1 => h2 B C O σ H1 (S.mono e1) _ fun vs H2 e2 r2 => q _ H2 (e1.trans e2) (.cons (r1.mono (hid_ex e2)) r2))
theorem pv_tup {l : List Expr} {k : Nat} (h : PVs X es l ds) (hl : ds.length ≤ 100000 := by decide) : PV X es (.Tuple l k pos) (.tuple ds) := fun B C O σ H S Q q =>
  wE_of (pe_tup (pa_w l)) (h B C O σ H S _ fun vs H1 e1 r => ⟨by rw [r.len]; exact Nat.le_trans hl (by decide), fun p hp =>
    q _ _ (e1.trans (Ex.new hp)) (.tup (hid_at (S.mono e1).dom hp upd_same) (r.mono (hid_ex (Ex.new hp))))⟩)
theorem pf_lst {l : List Expr} (h : PVs X es l ds) (hl : ds.length ≤ 100000 := by decide) : PF X es (.List l pos) ds := fun B C O σ H S Q q =>
  wE_of (pe_lst (pa_w l)) (h B C O σ H S _ fun vs H1 e1 r => ⟨by rw [r.len]; exact Nat.le_trans hl (by decide), fun p hp =>
    q p vs _ (fresh_back e1 hp) (e1.trans (Ex.new hp)) upd_same (r.mono (hid_new hp (Ex.new hp)))⟩)

/-! ### subscripts -/
theorem pv_ixT {j : Nat} (ha : PV X es a (.tuple ds)) (hi : PV X es i (.int (j : Int))) (hj : ds[j]? = some d) (hs : PlainIx i := by exact fun _ _ => rfl) : PV X es (.Subscript a i pos) d := fun B C O σ H S Q q =>
  wE_of (pe_ix ix_tup (pe_w a) (pe_w i) hs) (ha B C O σ H S _ fun v1 H1 e1 r1 => hi B C O σ H1 (S.mono e1) _ fun v2 H2 e2 r2 => by
    obtain ⟨p, xs, rfl, h, r⟩ := rp_tup (r1.mono (hid_ex e2))
    cases rp_int r2
    obtain ⟨v, hv, rv⟩ := r.get hj
    exact ⟨p, xs, _, v, rfl, rfl, SqT.of (hid_sub _ _ h), atI_nat hv, q v H2 (e1.trans e2) rv⟩)
theorem pv_ixL {j : Nat} (ha : PL X es a ds) (hi : PV X es i (.int (j : Int))) (hj : ds[j]? = some d) (hs : PlainIx i := by exact fun _ _ => rfl) : PV X es (.Subscript a i pos) d := fun B C O σ H S Q q =>
  wE_of (pe_ix ix_list (pe_w a) (pe_w i) hs) (ha B C O σ H S _ fun p xs H1 e1 h r => hi B C O σ H1 (S.mono e1) _ fun v2 H2 e2 r2 => by
    cases rp_int r2
    obtain ⟨v, hv, rv⟩ := r.get hj
    exact ⟨p, xs, _, v, rfl, rfl, SqL.of (e2 _ _ h), atI_nat hv, q v H2 (e1.trans e2) (rv.mono (hid_ex e2))⟩)

/-! ### calls of built-ins -/
section
variable {x : Str} {p : Pos} {id T : String} {r : List V → Hp → VK → Prop} {l : List Expr}
theorem pv_callB (hc : CallR X (.builtin id) r) (hg : Gl X x) (hm : X.mg x = none) (hv : bootBuiltins x = some (.builtin id)) (ha : PVs X es (e :: l) ds)
    (hr : ∀ (vs : List V) (O : Addr → Prop) (H : Hp), (∀ a, O a → ∃ o, H a = some o) → RpAll (hid O H) vs ds → ∀ Q : VK, (∀ v H', Ex H H' → Rp (hid O H') v d → Q v H') → r vs H Q)
    (hn : x ≠ "__name__" := by decide) (hdb : (x == ("__debug__" : Str)) = false := by decide) (he : starEach (e :: l) X.env = (false, eval e X.env) :: starEach l X.env := by rfl) (hpl : (backTo pos (starEach l X.env)).any (·.1) = false := by rfl) : PV X es (.Call (.Name x p) (e :: l) [] pos) d := fun B C O σ H S Q q =>
  wE_of (pe_callB hc hg hm hv (pa_w (e :: l)) hn hdb he hpl) (ha B C O σ H S _ fun vs H1 e1 r1 => hr vs O H1 (S.mono e1).dom r1 Q fun v H' e2 r2 => q v H' (e1.trans e2) r2)
theorem pv_callTy (hc : CallR X (.type T) r) (hg : Gl X x) (hm : X.mg x = none) (hv : bootBuiltins x = some (.type T)) (ha : PVs X es (e :: l) ds)
    (hr : ∀ (vs : List V) (O : Addr → Prop) (H : Hp), (∀ a, O a → ∃ o, H a = some o) → RpAll (hid O H) vs ds → ∀ Q : VK, (∀ v H', Ex H H' → Rp (hid O H') v d → Q v H') → r vs H Q)
    (hn : x ≠ "__name__" := by decide) (hdb : (x == ("__debug__" : Str)) = false := by decide) (he : starEach (e :: l) X.env = (false, eval e X.env) :: starEach l X.env := by rfl) (hpl : (backTo pos (starEach l X.env)).any (·.1) = false := by rfl) : PV X es (.Call (.Name x p) (e :: l) [] pos) d := fun B C O σ H S Q q =>
  wE_of (pe_callTy hc hg hm hv (pa_w (e :: l)) hn hdb he hpl) (ha B C O σ H S _ fun vs H1 e1 r1 => hr vs O H1 (S.mono e1).dom r1 Q fun v H' e2 r2 => q v H' (e1.trans e2) r2)
/-- the one argument a list that someone may own -/
theorem wA_one {σ : L2.St} {H : Hp} {Q : List V → Hp → Prop} (h : wE X e σ H fun v H1 => Q [v] H1) (he : starEach [e] X.env = (false, eval e X.env) :: starEach [] X.env := by rfl) : wA X [e] σ H Q := wA_of (pa_cons (pe_w e) pa_nil he) h
end
section
variable {p : Pos}
theorem pv_len (hm : X.mg "len" = none) (h : PL X es e ds) (hg : Gl X "len" := by rfl) (he : starEach [e] X.env = (false, eval e X.env) :: starEach [] X.env := by rfl) (hpl : (backTo pos (starEach [] X.env)).any (·.1) = false := by rfl) : PV X es (.Call (.Name "len" p) [e] [] pos) (.int (ds.length : Int)) := fun B C O σ H S Q q =>
  wE_of (pe_callB call_len_seq hg hm PySem.boot_len (pa_w [e]) (he := he) (hpl := hpl)) (wA_one (h B C O σ H S _ fun p xs H1 e1 h1 r => ⟨p, xs, rfl, .inl (SqL.of h1), q _ H1 e1 (by rw [r.len]; exact .int _)⟩) he)
theorem pv_lenT (hm : X.mg "len" = none) (h : PV X es e (.tuple ds)) (hg : Gl X "len" := by rfl) (he : starEach [e] X.env = (false, eval e X.env) :: starEach [] X.env := by rfl) (hpl : (backTo pos (starEach [] X.env)).any (·.1) = false := by rfl) : PV X es (.Call (.Name "len" p) [e] [] pos) (.int (ds.length : Int)) := fun B C O σ H S Q q =>
  wE_of (pe_callB call_len_seq hg hm PySem.boot_len (pa_w [e]) (he := he) (hpl := hpl)) (wA_one (h B C O σ H S _ fun v H1 e1 r => by
    obtain ⟨p, xs, rfl, h1, r⟩ := rp_tup r
    exact ⟨p, xs, rfl, .inr (SqT.of (hid_sub _ _ h1)), q _ H1 e1 (by rw [r.len]; exact .int _)⟩) he)
/-- tuple(list) -/
theorem pv_tupL (hm : X.mg "tuple" = none) (h : PL X es e ds) (hg : Gl X "tuple" := by rfl) (he : starEach [e] X.env = (false, eval e X.env) :: starEach [] X.env := by rfl) (hpl : (backTo pos (starEach [] X.env)).any (·.1) = false := by rfl) : PV X es (.Call (.Name "tuple" p) [e] [] pos) (.tuple ds) := fun B C O σ H S Q q =>
  wE_of (pe_callTy call_tuple_of hg hm (by decide +kernel) (pa_w [e]) (he := he) (hpl := hpl)) (wA_one (h B C O σ H S _ fun p xs H1 e1 h1 r => ⟨p, xs, rfl, .inl ⟨SqL.of h1, fun l hl =>
    q _ _ (e1.trans (Ex.new hl)) (.tup (hid_at (S.mono e1).dom hl upd_same) (r.mono (hid_ex (Ex.new hl))))⟩⟩) he)
/-- tuple(tuple) -/
theorem pv_tupT (hm : X.mg "tuple" = none) (h : PV X es e (.tuple ds)) (hg : Gl X "tuple" := by rfl) (he : starEach [e] X.env = (false, eval e X.env) :: starEach [] X.env := by rfl) (hpl : (backTo pos (starEach [] X.env)).any (·.1) = false := by rfl) : PV X es (.Call (.Name "tuple" p) [e] [] pos) (.tuple ds) := fun B C O σ H S Q q =>
  wE_of (pe_callTy call_tuple_of hg hm (by decide +kernel) (pa_w [e]) (he := he) (hpl := hpl)) (wA_one (h B C O σ H S _ fun v H1 e1 r => by
    obtain ⟨p, xs, rfl, h1, r'⟩ := rp_tup r
    exact ⟨p, xs, rfl, .inr ⟨SqT.of (hid_sub _ _ h1), q _ H1 e1 r⟩⟩) he)
theorem list_new {X : Cx} {es : List Sl} {ds : List PyData} {B : Hp} {C O : Addr → Prop} {σ : L2.St} {H H1 : Hp} {xs : List V} {Q : VK} (S : Sit B C O H σ es) (e1 : Ex H H1) (r : RpAll (hid O H1) xs ds)
    (q : ∀ p xs H', H p = none → Ex H H' → H' p = some (.lst xs) → RpAll (hid (fun a => O a ∨ a = p) H') xs ds → Q (.ref p) H') : ∀ l, H1 l = none → Q (.ref l) (upd H1 l (.lst xs)) := fun l hl =>
  q l xs _ (fresh_back e1 hl) (e1.trans (Ex.new hl)) upd_same (r.mono (hid_new hl (Ex.new hl)))
/-- list(list), list(tuple) -/
theorem pf_listL (hm : X.mg "list" = none) (h : PL X es e ds) (hg : Gl X "list" := by rfl) (he : starEach [e] X.env = (false, eval e X.env) :: starEach [] X.env := by rfl) (hpl : (backTo pos (starEach [] X.env)).any (·.1) = false := by rfl) : PF X es (.Call (.Name "list" p) [e] [] pos) ds := fun B C O σ H S Q q =>
  wE_of (pe_callTy call_list_of hg hm (by decide +kernel) (pa_w [e]) (he := he) (hpl := hpl)) (wA_one (h B C O σ H S _ fun p xs H1 e1 h1 r => ⟨p, xs, rfl, .inl (SqL.of h1), list_new (X := X) S e1 r q⟩) he)
theorem pf_listT (hm : X.mg "list" = none) (h : PV X es e (.tuple ds)) (hg : Gl X "list" := by rfl) (he : starEach [e] X.env = (false, eval e X.env) :: starEach [] X.env := by rfl) (hpl : (backTo pos (starEach [] X.env)).any (·.1) = false := by rfl) : PF X es (.Call (.Name "list" p) [e] [] pos) ds := fun B C O σ H S Q q =>
  wE_of (pe_callTy call_list_of hg hm (by decide +kernel) (pa_w [e]) (he := he) (hpl := hpl)) (wA_one (h B C O σ H S _ fun v H1 e1 r => by
    obtain ⟨p, xs, rfl, h1, r⟩ := rp_tup r
    exact ⟨p, xs, rfl, .inr (SqT.of (hid_sub _ _ h1)), list_new (X := X) S e1 r q⟩) he)
theorem pv_sum {ns : List Int} (hm : X.mg "sum" = none) (h : PL X es e (ns.map .int)) (hc : X.calm = true := by rfl) (hg : Gl X "sum" := by rfl) (he : starEach [e] X.env = (false, eval e X.env) :: starEach [] X.env := by rfl) (hpl : (backTo pos (starEach [] X.env)).any (·.1) = false := by rfl) : PV X es (.Call (.Name "sum" p) [e] [] pos) (.int ns.sum) := fun B C O σ H S Q q =>
  wE_of (pe_callB (cr_sum hc) hg hm (by decide +kernel) (pa_w [e]) (he := he) (hpl := hpl)) (wA_one (h B C O σ H S _ fun p xs H1 e1 h1 r => ⟨p, ns, rfl, by rw [← rpAll_ints r]; exact SqL.of h1, q _ H1 e1 (.int _)⟩) he)
theorem pv_intI {n : Int} (hm : X.mg "int" = none) (h : PV X es e (.int n)) (hg : Gl X "int" := by rfl) (he : starEach [e] X.env = (false, eval e X.env) :: starEach [] X.env := by rfl) (hpl : (backTo pos (starEach [] X.env)).any (·.1) = false := by rfl) : PV X es (.Call (.Name "int" p) [e] [] pos) (.int n) := fun B C O σ H S Q q =>
  wE_of (pe_callTy call_int1 hg hm (by decide +kernel) (pa_w [e]) (he := he) (hpl := hpl)) (wA_one (h B C O σ H S _ fun v H1 e1 r => by cases rp_int r; exact .inl ⟨n, rfl, q _ H1 e1 (.int _)⟩) he)
theorem pv_intB {n : Bool} (hm : X.mg "int" = none) (h : PV X es e (.bool n)) (hg : Gl X "int" := by rfl) (he : starEach [e] X.env = (false, eval e X.env) :: starEach [] X.env := by rfl) (hpl : (backTo pos (starEach [] X.env)).any (·.1) = false := by rfl) : PV X es (.Call (.Name "int" p) [e] [] pos) (.int (if n then 1 else 0)) := fun B C O σ H S Q q =>
  wE_of (pe_callTy call_int1 hg hm (by decide +kernel) (pa_w [e]) (he := he) (hpl := hpl)) (wA_one (h B C O σ H S _ fun v H1 e1 r => by cases rp_bl r; exact .inr ⟨n, rfl, q _ H1 e1 (.int _)⟩) he)
/-! isinstance -/
def tyName : PyData → String
  | .none => "NoneType"
  | .bool _ => "bool"
  | .int _ => "int"
  | .str _ => "str"
  | .list _ => "list"
  | .tuple _ => "tuple"
  | .dict _ => "dict"
theorem rp_ty {K : PySem.W.Frag} {H : Hp} {v : V} {d : PyData} (r : Rp H v d) (hn : d ≠ .none) : TyX K H v (.type (tyName d)) := by
  cases r with
  | non => exact absurd rfl hn
  | bl b => exact .base (.bl b)
  | int i => exact .base (.int i)
  | str x => exact .base (.str x)
  | lst h _ => exact .base (.lst h)
  | tup h _ => exact .base (.tup h)
end
/-! ### list + list, list * int, tuple + tuple -/
theorem pf_cat {ds' : List PyData} (ha : PL X es a ds) (hb : PL X es b ds') (hz : ds.length + ds'.length ≤ 100000) : PF X es (.BinOp a .Add b pos) (ds ++ ds') := fun B C O σ H S Q q =>
  wE_of (pe_op op_cat (pe_w a) (pe_w b)) (ha B C O σ H S _ fun p xs H1 e1 h1 r1 => hb B C O σ H1 (S.mono e1) _ fun p2 ys H2 e2 h2 r2 =>
    ⟨p, p2, xs, ys, rfl, rfl, e2 _ _ h1, h2, by rw [r1.len, r2.len]; exact Nat.le_trans hz (by decide), list_new (X := X) S (e1.trans e2) ((r1.mono (hid_ex e2)).append r2) q⟩)
theorem pf_rep {n : Int} (ha : PL X es a ds) (hb : PV X es b (.int n)) (hn : 0 ≤ n ∧ n ≤ 1000) (hz : ds.length ≤ 1) : PF X es (.BinOp a .Mult b pos) (List.replicate n.toNat ds).flatten := fun B C O σ H S Q q =>
  wE_of (pe_op op_rep (pe_w a) (pe_w b)) (ha B C O σ H S _ fun p xs H1 e1 h1 r1 => hb B C O σ H1 (S.mono e1) _ fun v H2 e2 r2 => by
    cases rp_int r2
    refine ⟨p, n, xs, rfl, rfl, e2 _ _ h1, by omega, by omega, ?_, list_new (X := X) S (e1.trans e2) ((r1.mono (hid_ex e2)).rep n.toNat) q⟩
    have hx : xs.length ≤ 1 := by rw [r1.len]; exact hz
    have h1 : xs.length * n.toNat ≤ 1 * 1000 := Nat.mul_le_mul hx (by omega)
    exact Nat.le_trans h1 (by decide))
theorem pv_catT {ds' : List PyData} (ha : PV X es a (.tuple ds)) (hb : PV X es b (.tuple ds')) (hz : ds.length + ds'.length ≤ 100000) : PV X es (.BinOp a .Add b pos) (.tuple (ds ++ ds')) := pv_bin op_catA ha hb fun v1 v2 O H dm r1 r2 Q q => by
  obtain ⟨p, xs, rfl, h1, q1⟩ := rp_tup r1
  obtain ⟨p2, ys, rfl, h2, q2⟩ := rp_tup r2
  refine ⟨p, p2, xs, ys, rfl, rfl, SqT.of (hid_sub _ _ h1), SqT.of (hid_sub _ _ h2), by rw [q1.len, q2.len]; exact Nat.le_trans hz (by decide), fun e0 => ?_, fun _ e0 => ?_, fun _ _ l hl => ?_⟩
  · subst e0
    cases q1
    exact q _ H (Ex.refl H) r2
  · subst e0
    cases q2
    rw [List.append_nil] at q
    exact q _ H (Ex.refl H) r1
  · exact q _ _ (Ex.new hl) (.tup (hid_at dm hl upd_same) ((q1.append q2).mono (hid_ex (Ex.new hl))))

/-! ### slices -/
/-- xs[:k] of a list -/
theorem pf_slHead {k : Nat} {kk : Nat} {pk p2 : Pos} (ha : PL X es a ds) : PF X es (.Subscript a (.Slice none (some (.Constant (.int (k : Int)) kk pk)) none p2) pos) (ds.take k) := fun B C O σ H S Q q =>
  wE_of (pe_slice sl_list (pe_w a) po_none (po_some pe_int)) (ha B C O σ H S _ fun p xs H1 e1 h1 r1 => ⟨_, rfl, p, xs, rfl, SqL.of h1, by
    have e : cutV xs none (some (k : Int)) = xs.take k := by
      unfold cutV
      rw [HT.sIx_none, show HT.sIx xs.length xs.length (some (k : Int)) = min k xs.length from HT.sIx_nat _ _ _]
      rw [List.drop_zero, Nat.sub_zero]
      by_cases c : k ≤ xs.length
      · rw [Nat.min_eq_left c]
      · rw [Nat.min_eq_right (by omega), List.take_of_length_le (Nat.le_refl _), List.take_of_length_le (by omega)]
    rw [e]
    exact list_new (X := X) S e1 (r1.take k) q⟩)
/-- t[:-1] of a tuple that is not empty -/
theorem pv_slInit {kk : Nat} {pk p2 p3 : Pos} (ha : PV X es a (.tuple ds)) (hne : ds ≠ []) : PV X es (.Subscript a (.Slice none (some (.UnaryOp .USub (.Constant (.int 1) kk pk) p3)) none p2) pos) (.tuple (ds.take (ds.length - 1))) := fun B C O σ H S Q q =>
  wE_of (pe_slice sl_tupA (pe_w a) po_none (po_some (pe_un un_neg pe_int))) (ha B C O σ H S _ fun v H1 e1 r => by
    obtain ⟨p, xs, rfl, h1, r1⟩ := rp_tup r
    have hl : 0 < xs.length := by
      rw [r1.len]
      cases ds with
      | nil => exact absurd rfl hne
      | cons _ _ => exact Nat.succ_pos _
    have e : HT.sIx xs.length xs.length (some (-1)) = xs.length - 1 := by
      unfold HT.sIx
      simp
      omega
    refine ⟨1, rfl, -1, rfl, p, xs, rfl, SqT.of (hid_sub _ _ h1), fun z => ?_, fun _ l hl => ?_⟩
    · have := z.2
      rw [e] at this
      omega
    · have e2 : cutV xs none (some (-1)) = xs.take (ds.length - 1) := by
        unfold cutV
        rw [HT.sIx_none, e, List.drop_zero, Nat.sub_zero, r1.len]
      rw [e2]
      exact q _ _ (e1.trans (Ex.new hl)) (.tup (hid_at (S.mono e1).dom hl upd_same) ((r1.take _).mono (hid_ex (Ex.new hl)))))
end
end PcW
set_option Elab.async false
set_option linter.all false
set_option maxRecDepth 100000
set_option maxHeartbeats 4000000
/-! Own defs, comprehensions, statements and loops by what data they give. -/
namespace PcW
open PySem PySem.Spec PyProof.Rows L2

/-! ### a def by its answer -/
def spF (R : List PyData → PyData → Prop) : Sp := fun vs H Q _ => ∃ (C : Addr → Prop) (ds : List PyData) (d : PyData), (∀ a, C a → ∃ o, H a = some o) ∧ RpAll (hid C H) vs ds ∧ R ds d ∧ ∀ v H', Ex H H' → Rp (hid C H') v d → Q v H'
/-- .. that changes the two ints of the list that is its first argument -/
def spS (ok : List PyData → Prop) (R : List PyData → PyData → Prop) : Sp := fun vs H Q _ => ∃ (C : Addr → Prop) (st : Addr) (x y : Int) (us : List V) (ds : List PyData), vs = .ref st :: us ∧ C st ∧ (∀ a, C a → ∃ o, H a = some o) ∧ H st = some (.lst [.int x, .int y]) ∧ RpAll (hid C H) us ds ∧ ok ds ∧
  ∀ v H' d, (∀ a o, a ≠ st → H a = some o → H' a = some o) → (∃ x' y', H' st = some (.lst [.int x', .int y'])) → R ds d → Rp (hid C H') v d → Q v H'
structure Fc (P : Program) (w : World) (K : PySem.W.Frag) (mg : Str → Option Value) (base : Heap) (k : Nat) (x : Str) (ps : List Str) (sp : Sp) : Prop where
  ex : ∃ (f : Addr) (fd : FuncData), FnOk P w K mg base CX0 k f fd ps sp ∧ mg x = some (.ref f) ∧ PySem.W.keepIn K (.ref f) = true ∧ Binds K fd ps []

section
variable {X : Cx} {es : List Sl} {e : Expr} {d : PyData} {ds : List PyData} {pos : Pos}
theorem pv_call {k : Nat} {x : Str} {p : Pos} {ps : List Str} {R : List PyData → PyData → Prop} {l : List Expr} (F : Fc X.prog X.w X.K X.mg X.base k x ps (spF R)) (hr : Room k X.A) (ha : PVs X es (e :: l) ds) (hR : R ds d) (hg : Gl X x := by rfl)
    (hdb : (x == ("__debug__" : Str)) = false := by decide) (he : starEach (e :: l) X.env = (false, eval e X.env) :: starEach l X.env := by rfl) (hpl : (backTo pos (starEach l X.env)).any (·.1) = false := by rfl) : PV X es (.Call (.Name x p) (e :: l) [] pos) d := by
  obtain ⟨f, fd, G, hm, hk, hb⟩ := F.ex
  exact fun B C O σ H S Q q => wE_of (pe_call G hr hg hm hk hb .nil pass0 (pa_w (e :: l)) hdb he hpl) (ha B C O σ H S _ fun vs H1 e1 r1 =>
    ⟨O, ds, d, (S.mono e1).dom, by rw [List.append_nil]; exact r1, hR, fun v H' e2 r2 => q v H' (e1.trans e2) r2⟩)

/-! ### what an expression gives that turns the two ints -/
def SV (X : Cx) (es : List Sl) (e : Expr) (R : PyData → Prop) : Prop := ∀ (B : Hp) (C O : Addr → Prop) (σ : L2.St) (H : Hp), Sit B C O H σ es → ∀ Q : VK, (∀ v H' d, Sit B C O H' σ es → Ex (hid O H) (hid O H') → R d → Rp (hid O H') v d → Q v H') → wE X e σ H Q
theorem PV.sv (h : PV X es e d) : SV X es e (· = d) := fun B C O σ H S Q q => h B C O σ H S Q fun v H' e1 r => q v H' d (S.mono e1) (hid_ex e1) rfl r
theorem Sit.turnTwo {B : Hp} {C O : Addr → Prop} {H H' : Hp} {σ : L2.St} (S : Sit B C O H σ es) {i : Nat} {st : Addr} (hi : es[i]? = some (.two st)) (k : ∀ a o, a ≠ st → H a = some o → H' a = some o) (ht : ∃ x y, H' st = some (.lst [.int x, .int y])) :
    Sit B C O H' σ es ∧ Ex (hid O H) (hid O H') := by
  obtain ⟨x, y, h⟩ := ht
  obtain ⟨w, _⟩ := S.slot i _ hi
  have S1 := S.writeTwo (a := x) (b := y) hi
  refine ⟨S1.mono fun a o q => ?_, fun a o q => ?_⟩
  · by_cases c : a = st
    · subst c; rw [upd_same] at q; cases q; exact h
    · rw [upd_ne c] at q; exact k a o c q
  · obtain ⟨q1, q2⟩ := hid_some.mp q
    exact hid_some.mpr ⟨q1, k a o (fun z => q1 (by rw [z]; exact w.own)) q2⟩
theorem sv_call {k i : Nat} {st : Addr} {x y : Str} {p py : Pos} {ps : List Str} {ok : List PyData → Prop} {R : List PyData → PyData → Prop} {l : List Expr} (F : Fc X.prog X.w X.K X.mg X.base k x ps (spS ok R)) (hr : Room k X.A) (hs : es[i]? = some (.two st)) (ha : PVs X es l ds) (hok : ok ds)
    (hg : Gl X x := by rfl) (hN : X.N[i]? = some y := by rfl) (hv : Vis X.env.scope y := by first | exact Or.inl rfl | exact Or.inr (Or.inl rfl) | exact Or.inr (Or.inr rfl)) (hd : (y == ("__debug__" : Str)) = false := by decide) (hcd : (y == ("__classdict__" : Str)) = false := by decide)
    (hdb : (x == ("__debug__" : Str)) = false := by decide) (he : starEach (.Name y py :: l) X.env = (false, eval (.Name y py) X.env) :: starEach l X.env := by rfl) (hpl : (backTo pos (starEach l X.env)).any (·.1) = false := by rfl) : SV X es (.Call (.Name x p) (.Name y py :: l) [] pos) (R ds) := by
  obtain ⟨f, fd, G, hm, hk, hb⟩ := F.ex
  exact fun B C O σ H S Q q => wE_of (pe_call G hr hg hm hk hb .nil pass0 (pa_cons (pe_var hN hv hd hcd) (pa_w l) he) hdb he hpl) (by
    obtain ⟨w, x0, y0, h0⟩ := S.slot i _ hs
    refine ⟨_, w.ref, ha B C O σ H S _ fun vs H1 e1 r1 => ?_⟩
    refine ⟨O, st, x0, y0, vs, ds, by rw [List.append_nil], w.own, (S.mono e1).dom, e1 _ _ h0, r1, hok, fun v H' d k ht hR r => ?_⟩
    obtain ⟨S2, ex⟩ := (S.mono e1).turnTwo hs k ht
    exact q v H' d S2 ((hid_ex e1).trans ex) hR r)

/-! ### what is walked -/
structure SrcJ (Kp : Hp) (O : Addr → Prop) (H1 : Hp) (J : It) (items : List PyData) : Prop where
  stop : ∀ H', Ex Kp H' → J.stop items.length H'
  go : ∀ i, i < items.length → ∀ H', Ex Kp H' → J.go i H'
  yld : ∀ (i : Nat) (d : PyData), items[i]? = some d → ∀ H' x H'', Ex Kp H' → J.yld i H' x H'' → Ex H' H'' ∧ ∀ O2 : Addr → Prop, Ex (hid O H1) (hid O2 H') → (∀ a, O2 a → ∃ o, H' a = some o) → Rp (hid O2 H'') x d
def PSrc (X : Cx) (es : List Sl) (wi : TI) (items : List PyData) : Prop := ∀ (B : Hp) (C O : Addr → Prop) (σ : L2.St) (H : Hp), Sit B C O H σ es → ∀ R : It → Hp → Prop, (∀ J H1, Ex H H1 → SrcJ H1 O H1 J items → R J H1) → wi σ H R
def FSrc (X : Cx) (es : List Sl) (wi : TI) (items : List PyData) : Prop := ∀ (B : Hp) (C O : Addr → Prop) (σ : L2.St) (H : Hp), Sit B C O H σ es → ∀ R : It → Hp → Prop, (∀ J H1, Ex H H1 → SrcJ (hid O H1) O H1 J items → R J H1) → wi σ H R
theorem FSrc.p {wi : TI} {items : List PyData} (h : FSrc X es wi items) : PSrc X es wi items := fun B C O σ H S R q => h B C O σ H S R fun J H1 e1 j => q J H1 e1
  ⟨fun H' e => j.stop H' (hid_sub.trans e), fun i hi H' e => j.go i hi H' (hid_sub.trans e), fun i d hd H' x H'' e y => j.yld i d hd H' x H'' (hid_sub.trans e) y⟩
theorem srcj_list {K : PySem.W.Frag} {Kp H1 : Hp} {O : Addr → Prop} {a : Addr} {xs : List V} {ds : List PyData} (hk : ∀ H', Ex Kp H' → H' a = some (.lst xs)) (r : RpAll (hid O H1) xs ds) : SrcJ Kp O H1 (Itl K a) ds := by
  refine ⟨fun H' e => ⟨xs, SqL.of (hk H' e), by rw [r.len]; exact Nat.le_refl _⟩, fun i hi H' e => ?_, fun i d hd H' x H'' e y => ?_⟩
  · obtain ⟨v, hv, _⟩ := r.get (List.getElem?_eq_getElem hi)
    exact ⟨xs, v, SqL.of (hk H' e), hv⟩
  · obtain ⟨rfl, y⟩ := y
    refine ⟨Ex.refl _, fun O2 e2 _ => ?_⟩
    obtain ⟨v, hv, rv⟩ := r.get hd
    have := y xs (SqL.of (hk _ e))
    rw [hv] at this
    cases this
    exact rv.mono e2
theorem srcj_tup {K : PySem.W.Frag} {Kp H1 : Hp} {O : Addr → Prop} {a : Addr} {xs : List V} {ds : List PyData} (hk : ∀ H', Ex Kp H' → H' a = some (.tup xs)) (r : RpAll (hid O H1) xs ds) : SrcJ Kp O H1 (Itt K a) ds := by
  refine ⟨fun H' e => ⟨xs, SqT.of (hk H' e), by rw [r.len]; exact Nat.le_refl _⟩, fun i hi H' e => ?_, fun i d hd H' x H'' e y => ?_⟩
  · obtain ⟨v, hv, _⟩ := r.get (List.getElem?_eq_getElem hi)
    exact ⟨xs, v, SqT.of (hk H' e), hv⟩
  · obtain ⟨rfl, y⟩ := y
    refine ⟨Ex.refl _, fun O2 e2 _ => ?_⟩
    obtain ⟨v, hv, rv⟩ := r.get hd
    have := y xs (SqT.of (hk _ e))
    rw [hv] at this
    cases this
    exact rv.mono e2
theorem psrc_own (h : PL X es e ds) : PSrc X es (iList X.K (wE X e)) ds := fun B C O σ H S R q => h B C O σ H S _ fun p xs H1 e1 h1 r => ⟨p, rfl, ⟨xs, SqL.of h1⟩, q _ H1 e1 (srcj_list (fun H' e => e _ _ h1) r)⟩
theorem fsrc_list (h : PV X es e (.list ds)) : FSrc X es (iList X.K (wE X e)) ds := fun B C O σ H S R q => h B C O σ H S _ fun v H1 e1 r => by
  obtain ⟨p, xs, rfl, h1, r⟩ := rp_lst r
  exact ⟨p, rfl, ⟨xs, SqL.of (hid_sub _ _ h1)⟩, q _ H1 e1 (srcj_list (fun H' e => e _ _ h1) r)⟩
theorem fsrc_tup (h : PV X es e (.tuple ds)) : FSrc X es (iTup X.K (wE X e)) ds := fun B C O σ H S R q => h B C O σ H S _ fun v H1 e1 r => by
  obtain ⟨p, xs, rfl, h1, r⟩ := rp_tup r
  exact ⟨p, rfl, ⟨xs, SqT.of (hid_sub _ _ h1)⟩, q _ H1 e1 (srcj_tup (fun H' e => e _ _ h1) r)⟩
def rng (lo : Int) (n : Nat) : List PyData := (List.range n).map fun (i : Nat) => .int (lo + (i : Int))
theorem srcj_rng {Kp H1 : Hp} {O : Addr → Prop} {lo : Int} {n : Nat} : SrcJ Kp O H1 (Itr lo n) (rng lo n) := by
  have hl : (rng lo n).length = n := by unfold rng; rw [List.length_map, List.length_range]
  refine ⟨fun H' _ => ?_, fun i hi H' _ => ?_, fun i d hd H' x H'' _ y => ?_⟩
  · show n ≤ (rng lo n).length; rw [hl]; exact Nat.le_refl _
  · show i < n; rw [← hl]; exact hi
  · obtain ⟨rfl, rfl⟩ := y
    refine ⟨Ex.refl _, fun O2 _ _ => ?_⟩
    have hi : i < n := by rw [← hl]; exact (List.getElem?_eq_some_iff.mp hd).1
    unfold rng at hd
    rw [List.getElem?_map, List.getElem?_range hi] at hd
    cases hd
    exact .int _
theorem fsrc_rng1 {n : Int} (h : PV X es e (.int n)) (h0 : 0 ≤ n) (h1 : n ≤ 100000) (hs : starEach [e] X.env = (false, eval e X.env) :: starEach [] X.env := by rfl) : FSrc X es (iRng1 (wA X [e])) (rng 0 n.toNat) := fun B C O σ H S R q => wA_one (h B C O σ H S _ fun v H1 e1 r => by
  cases rp_int r
  exact ⟨n, rfl, by omega, by omega, q _ H1 e1 srcj_rng⟩) hs
theorem fsrc_rng2 {m n : Int} {a b : Expr} (h : PVs X es [a, b] [.int m, .int n]) (h0 : 0 ≤ m ∧ m ≤ 100000) (h1 : 0 ≤ n ∧ n ≤ 100000) : FSrc X es (iRng2 (wA X [a, b])) (rng m (n - m).toNat) := fun B C O σ H S R q => h B C O σ H S _ fun vs H1 e1 r => by
  have e : vs = [.int m, .int n] := rpAll_ints (ns := [m, n]) r
  subst e
  exact ⟨m, n, rfl, ⟨by omega, by omega, by omega, by omega⟩, q _ H1 e1 srcj_rng⟩
def zd (ds1 ds2 : List PyData) : List PyData := List.zipWith (fun x y => PyData.tuple [x, y]) ds1 ds2
theorem srcj_zip {Kp H1 : Hp} {O : Addr → Prop} {J : It} {xs ys : List V} {ds1 ds2 : List PyData} (r1 : RpAll (hid O H1) xs ds1) (r2 : RpAll (hid O H1) ys ds2)
    (hst : ∀ H' i, Ex Kp H' → (xs.length ≤ i ∨ ys.length ≤ i) → J.stop i H') (hgo : ∀ H' i x y, Ex Kp H' → xs[i]? = some x → ys[i]? = some y → J.go i H')
    (hy : ∀ H' i v H'', Ex Kp H' → J.yld i H' v H'' → ∃ T x y, v = .ref T ∧ H' T = none ∧ H'' = upd H' T (.tup [x, y]) ∧ xs[i]? = some x ∧ ys[i]? = some y) : SrcJ Kp O H1 J (zd ds1 ds2) := by
  have hl : (zd ds1 ds2).length = min ds1.length ds2.length := List.length_zipWith
  refine ⟨fun H' e => hst H' _ e (by rw [hl, r1.len, r2.len]; omega), fun i hi H' e => ?_, fun i d hd H' v H'' e yy => ?_⟩
  · rw [hl] at hi
    obtain ⟨v, hv, _⟩ := r1.get (List.getElem?_eq_getElem (show i < ds1.length by omega))
    obtain ⟨u, hu, _⟩ := r2.get (List.getElem?_eq_getElem (show i < ds2.length by omega))
    exact hgo H' i v u e hv hu
  · obtain ⟨T, x, y, rfl, hT, rfl, hx, hyy⟩ := hy H' i v H'' e yy
    refine ⟨Ex.new hT, fun O2 e2 dm => ?_⟩
    obtain ⟨d1, h1, q1⟩ := r1.getV hx
    obtain ⟨d2, h2, q2⟩ := r2.getV hyy
    have : d = .tuple [d1, d2] := by
      unfold zd at hd
      rw [List.getElem?_zipWith, h1, h2] at hd
      cases hd; rfl
    subst this
    have ex : Ex (hid O H1) (hid O2 (upd H' T (.tup [x, y]))) := e2.trans (hid_ex (Ex.new hT))
    exact .tup (hid_at dm hT upd_same) (.cons (q1.mono ex) (.cons (q2.mono ex) .nil))
theorem fsrc_zipT {a b : Expr} {ds1 ds2 : List PyData} (h : PVs X es [a, b] [.tuple ds1, .tuple ds2]) : FSrc X es (RZ.iZipA X.K (wA X [a, b])) (zd ds1 ds2) := fun B C O σ H S R q => h B C O σ H S _ fun vs H1 e1 r => by
  cases r with
  | cons ra r =>
    cases r with
    | cons rb r =>
      cases r
      obtain ⟨p, xs, rfl, h1, r1⟩ := rp_tup ra
      obtain ⟨p2, ys, rfl, h2, r2⟩ := rp_tup rb
      refine ⟨p, p2, xs, ys, rfl, .inr ⟨SqT.of (hid_sub _ _ h1), SqT.of (hid_sub _ _ h2), q _ H1 e1 (srcj_zip r1 r2 (fun H' i e z => ⟨xs, ys, SqT.of (e _ _ h1), SqT.of (e _ _ h2), z⟩) (fun H' i x y e z1 z2 => ⟨xs, ys, x, y, SqT.of (e _ _ h1), SqT.of (e _ _ h2), z1, z2⟩) (fun H' i v H'' e y => ?_))⟩⟩
      obtain ⟨T, x, y, e1, e2, e3, f1, f2⟩ := y
      exact ⟨T, x, y, e1, e2, e3, f1 xs (SqT.of (e _ _ h1)), f2 ys (SqT.of (e _ _ h2))⟩
theorem fsrc_zipL {a b : Expr} {ds1 ds2 : List PyData} (h : PVs X es [a, b] [.list ds1, .list ds2]) : FSrc X es (RZ.iZipA X.K (wA X [a, b])) (zd ds1 ds2) := fun B C O σ H S R q => h B C O σ H S _ fun vs H1 e1 r => by
  cases r with
  | cons ra r =>
    cases r with
    | cons rb r =>
      cases r
      obtain ⟨p, xs, rfl, h1, r1⟩ := rp_lst ra
      obtain ⟨p2, ys, rfl, h2, r2⟩ := rp_lst rb
      refine ⟨p, p2, xs, ys, rfl, .inl ⟨SqL.of (hid_sub _ _ h1), SqL.of (hid_sub _ _ h2), q _ H1 e1 (srcj_zip r1 r2 (fun H' i e z => ⟨xs, ys, SqL.of (e _ _ h1), SqL.of (e _ _ h2), z⟩) (fun H' i x y e z1 z2 => ⟨xs, ys, x, y, SqL.of (e _ _ h1), SqL.of (e _ _ h2), z1, z2⟩) (fun H' i v H'' e y => ?_))⟩⟩
      obtain ⟨T, x, y, e1, e2, e3, f1, f2⟩ := y
      exact ⟨T, x, y, e1, e2, e3, f1 xs (SqL.of (e _ _ h1)), f2 ys (SqL.of (e _ _ h2))⟩
end

/-! ### targets -/
theorem set_wipe {σ : L2.St} {i : Nat} {o : Option V} : ∀ {vs : List Nat}, i ∉ vs → wipe (σ.set i o) vs = (wipe σ vs).set i o
  | [], _ => rfl
  | v :: vs, h => by
    show (wipe (σ.set i o) vs).set v none = ((wipe σ vs).set v none).set i o
    rw [set_wipe (fun q => h (List.mem_cons_of_mem _ q)), List.set_comm _ _ fun q => h (by rw [q]; exact List.mem_cons_self)]
theorem wipe_set {σ : L2.St} {i : Nat} {o : Option V} : ∀ {vs : List Nat}, i ∈ vs → wipe (σ.set i o) vs = wipe σ vs
  | v :: vs, h => by
    show (wipe (σ.set i o) vs).set v none = (wipe σ vs).set v none
    by_cases c : i ∈ vs
    · rw [wipe_set c]
    · rcases List.mem_cons.mp h with rfl | h
      · rw [set_wipe c, List.set_set]
      · exact absurd h c
theorem wipe_at {σ : L2.St} {i : Nat} : ∀ {vs : List Nat}, i ∈ vs → (wipe σ vs).set i none = wipe σ vs
  | v :: vs, h => by
    show ((wipe σ vs).set v none).set i none = (wipe σ vs).set v none
    by_cases c : i = v
    · subst c; rw [List.set_set]
    · rcases List.mem_cons.mp h with rfl | h
      · exact absurd rfl c
      · rw [List.set_comm _ _ (Ne.symm c), wipe_at h]
theorem wipe_wipe {σ : L2.St} {vs : List Nat} : ∀ {ws : List Nat}, (∀ i ∈ ws, i ∈ vs) → wipe (wipe σ vs) ws = wipe σ vs
  | [], _ => rfl
  | w :: ws, h => by
    show (wipe (wipe σ vs) ws).set w none = _
    rw [wipe_wipe fun i hi => h i (List.mem_cons_of_mem _ hi), wipe_at (h w List.mem_cons_self)]
def wipeE (es : List Sl) : List Nat → List Sl
  | [] => es
  | v :: vs => (wipeE es vs).set v .no
theorem Sit.wipe {B : Hp} {C O : Addr → Prop} {H : Hp} {σ : L2.St} {es : List Sl} (S : Sit B C O H σ es) : ∀ vs : List Nat, Sit B C O H (L2.wipe σ vs) (wipeE es vs)
  | [] => S
  | v :: vs => (S.wipe vs).setNo
def GA (g : TG) (d : PyData) (F : List Sl → List Sl) (is : List Nat) : Prop := ∀ (B : Hp) (C O : Addr → Prop) (σ : L2.St) (H : Hp) (es : List Sl) (v : V), Sit B C O H σ es → Rp (hid O H) v d → ∀ Q : L2.St → Hp → Prop,
  (∀ σ', Sit B C O H σ' (F es) → (∀ vs : List Nat, (∀ i ∈ is, i ∈ vs) → wipe σ' vs = wipe σ vs) → Q σ' H) → g v σ H Q
theorem ga_name {i : Nat} {d : PyData} : GA (gName i) d (fun es => es.set i (.val d)) [i] := fun B C O σ H es v S r Q q => q _ (S.setVal r) fun vs h => wipe_set (h i List.mem_cons_self)
theorem ga_two {K : PySem.W.Frag} {i j : Nat} {a b : PyData} : GA (gTup K 2 (gCons (gName i) (gCons (gName j) gNil))) (.tuple [a, b]) (fun es => (es.set i (.val a)).set j (.val b)) [i, j] := fun B C O σ H es v S r Q q => by
  obtain ⟨p, xs, rfl, h, r⟩ := rp_tup r
  cases r with
  | cons ra r =>
    cases r with
    | cons rb r =>
      cases r
      refine ⟨p, _, rfl, SqT.of (hid_sub _ _ h), rfl, _, _, rfl, _, _, rfl, rfl, q _ ((S.setVal ra).setVal rb) fun vs hv => ?_⟩
      rw [wipe_set (hv j (by simp)), wipe_set (hv i (by simp))]

/-! ### comprehensions -/
def EvV (te : TE) (es : List Sl) (d : PyData) : Prop := ∀ (B : Hp) (C O : Addr → Prop) (σ : L2.St) (H : Hp), Sit B C O H σ es → ∀ Q : VK, (∀ v H', Ex H H' → Rp (hid O H') v d → Q v H') → te σ H Q
def EvB (tt : TT) (es : List Sl) (b : Bool) : Prop := ∀ (B : Hp) (C O : Addr → Prop) (σ : L2.St) (H : Hp), Sit B C O H σ es → ∀ Q : Bool → Hp → Prop, (∀ H', Ex H H' → Q b H') → tt σ H Q
theorem filter_snoc {items : List PyData} {b : PyData → Bool} {i : Nat} {d : PyData} (h : items[i]? = some d) : (items.take (i + 1)).filter b = (items.take i).filter b ++ (if b d then [d] else []) := by
  rw [List.take_add_one, h, List.filter_append]
  congr 1
  show [d].filter b = _
  rw [List.filter_cons]
  rfl
theorem lc_data {X : Cx} {es : List Sl} {wi : TI} {g : TG} {tt : TT} {te : TE} {vs is : List Nat} {items : List PyData} {F : PyData → List Sl → List Sl} {b : PyData → Bool} {out : PyData → PyData}
    (src : PSrc X es wi items) (ga : ∀ d ∈ items, GA g d (F d) is) (his : ∀ i ∈ is, i ∈ vs) (ht : ∀ d ∈ items, EvB tt (F d (wipeE es vs)) (b d)) (he : ∀ d ∈ items, b d = true → EvV te (F d (wipeE es vs)) (out d)) (hz : items.length ≤ 100000)
    {B : Hp} {C O : Addr → Prop} {σ : L2.St} {H : Hp} (S : Sit B C O H σ es) {Q : VK} (q : ∀ p xs H', H p = none → Ex H H' → H' p = some (.lst xs) → RpAll (hid (fun a => O a ∨ a = p) H') xs ((items.filter b).map out) → Q (.ref p) H') : tLc wi g tt te vs σ H Q := by
  refine src B C O σ H S _ fun J H1 e1 j D hD => ?_
  refine ⟨fun i m H2 => m = items.length - i ∧ i ≤ items.length ∧ Ex H1 H2 ∧ ∃ acc, H2 D = some (.lst acc) ∧ acc.length ≤ i ∧ RpAll (hid (fun a => O a ∨ a = D) H2) acc (((items.take i).filter b).map out), ⟨items.length, by omega, Nat.zero_le _, Ex.new hD, [], upd_same, Nat.le_refl _, .nil⟩, ?_⟩
  rintro i m H2 ⟨rfl, hi, e2, acc, hacc, hal, ra⟩
  by_cases hlt : i < items.length
  · refine .inr ⟨j.go i hlt H2 e2, fun H3 => i + 1 ≤ items.length ∧ Ex H1 H3 ∧ ∃ acc, H3 D = some (.lst acc) ∧ acc.length ≤ i + 1 ∧ RpAll (hid (fun a => O a ∨ a = D) H3) acc (((items.take (i + 1)).filter b).map out), fun H3 h3 => ⟨items.length - (i + 1), by omega, rfl, h3⟩, fun x H3 y => ?_⟩
    have hd : items[i]? = some items[i] := List.getElem?_eq_getElem hlt
    have hmem : items[i] ∈ items := List.getElem_mem hlt
    generalize hdd : items[i] = d at hd hmem
    obtain ⟨e3, rx⟩ := j.yld i d hd H2 x H3 e2 y
    have S2 : Sit B C (fun a => O a ∨ a = D) H2 σ es := (S.mono e1).hide hD e2 hacc
    have rx := rx (fun a => O a ∨ a = D) (hid_new hD e2) S2.dom
    refine ga d hmem B C _ (wipe σ vs) H3 (wipeE es vs) x ((S2.mono e3).wipe vs) rx _ fun σ' S3 hw => ⟨?_, ?_⟩
    · rw [hw vs his, wipe_wipe fun i h => h]
    refine ht d hmem B C _ σ' H3 S3 _ fun H4 e4 => ?_
    have ex4 : Ex H2 H4 := e3.trans e4
    cases hb : b d with
    | true =>
      rw [if_pos rfl]
      refine he d hmem hb B C _ σ' H4 (S3.mono e4) _ fun v H5 e5 rv => ⟨acc, (ex4.trans e5) _ _ hacc, Nat.lt_of_le_of_lt (Nat.le_trans hal (Nat.le_trans hi hz)) (by decide), hlt, fun a o h => ?_, acc ++ [v], upd_same, by simp; omega, ?_⟩
      · rw [upd_ne fun z => by rw [z, hD] at h; cases h]
        exact ((e2.trans ex4).trans e5) a o h
      · rw [hid_upd (.inr rfl), filter_snoc hd, hb, if_pos rfl, List.map_append]
        exact (ra.mono (hid_ex (ex4.trans e5))).append (.cons rv .nil)
    | false =>
      rw [if_neg Bool.false_ne_true]
      refine ⟨hlt, e2.trans ex4, acc, ex4 _ _ hacc, Nat.le_succ_of_le hal, ?_⟩
      rw [filter_snoc hd, hb, if_neg Bool.false_ne_true, List.append_nil]
      exact ra.mono (hid_ex ex4)
  · have hi' : i = items.length := by omega
    subst hi'
    rw [List.take_length] at ra
    exact .inl ⟨j.stop H2 e2, q D acc H2 (fresh_back e1 hD) (e1.trans e2) hacc ra⟩

section
variable {X : Cx} {es : List Sl} {elt tg iter c : Expr} {scope : Scope} {own : List (Str × Nat)} {pos : Pos} {wi : TI} {g : TG} {is : List Nat} {items : List PyData} {F : PyData → List Sl → List Sl} {b : PyData → Bool} {out : PyData → PyData}
/-- of the blocks of a comprehension: all of them -/
def wEb (X : Cx) (scope : Scope) (e : Expr) : TE := fun σ H Q => ∀ (s : Shared) (H0 : Hp) (C : Addr) (cl : List (Str × Addr)) (fp : List Addr), wE (X.blk s H0 scope (compEnvC scope cl C X.env) fp) e σ H Q
def wTb (X : Cx) (scope : Scope) (e : Expr) : TT := fun σ H Q => ∀ (s : Shared) (H0 : Hp) (C : Addr) (cl : List (Str × Addr)) (fp : List Addr), wT (X.blk s H0 scope (compEnvC scope cl C X.env) fp) e σ H Q
def wAb (X : Cx) (scope : Scope) (l : List Expr) : TA := fun σ H Q => ∀ (s : Shared) (H0 : Hp) (C : Addr) (cl : List (Str × Addr)) (fp : List Addr), wA (X.blk s H0 scope (compEnvC scope cl C X.env) fp) l σ H Q
theorem ev_b {d : PyData} {es' : List Sl} (h : ∀ (s : Shared) (H0 : Hp) (C : Addr) (cl : List (Str × Addr)) (fp : List Addr), PV (X.blk s H0 scope (compEnvC scope cl C X.env) fp) es' elt d) : EvV (wEb X scope elt) es' d := fun B C O σ H S Q q s H0 C0 cl fp => h s H0 C0 cl fp B C O σ H S Q q
theorem ev_tb {x : Bool} {es' : List Sl} (h : ∀ (s : Shared) (H0 : Hp) (C : Addr) (cl : List (Str × Addr)) (fp : List Addr), PB (X.blk s H0 scope (compEnvC scope cl C X.env) fp) es' c x) : EvB (wTb X scope c) es' x := fun B C O σ H S Q q s H0 C0 cl fp => h s H0 C0 cl fp B C O σ H S Q q
theorem ev_yes {es' : List Sl} : EvB tYes es' true := fun B C O σ H S Q q => q H (Ex.refl H)
/-- [elt for tg in iter] -/
theorem pf_lc (hN : X.N.Nodup) (hi : PI X tg iter wi) (src : PSrc X es wi items) (ok : BlkOk X.N X.env.scope scope own)
    (hg : ∀ (s : Shared) (H : Hp) (C : Addr) (cl : List (Str × Addr)) (fp : List Addr), PG (X.blk s H scope (compEnvC scope cl C X.env) fp) tg g)
    (ga : ∀ d ∈ items, GA g d (F d) is) (his : ∀ i ∈ is, i ∈ own.map (·.2))
    (he : ∀ (s : Shared) (H : Hp) (C : Addr) (cl : List (Str × Addr)) (fp : List Addr), ∀ d ∈ items, PV (X.blk s H scope (compEnvC scope cl C X.env) fp) (F d (wipeE es (own.map (·.2)))) elt (out d)) (hz : items.length ≤ 100000) (hc : X.calm = true := by rfl) (hs : ∀ x, foldedSetIterable iter X.env x = pure x := by intro _; rfl) :
    PF X es (.ListComp elt [⟨tg, iter, [], 0⟩] scope pos) (items.map out) := fun B C O σ H S Q q =>
  wE_of (pe_lc hc hN hi ok hg (fun _ _ _ _ _ => pts_nil) (te := wEb X scope elt) (fun s H C cl fp => ⟨fun pins s' σ H Q I h => h s _ C cl fp pins s' I⟩) hs)
    (lc_data (b := fun _ => true) src ga his (fun _ _ => ev_yes) (fun d hd _ => ev_b fun s H0 C0 cl fp => he s H0 C0 cl fp d hd) hz S fun p xs H' h1 h2 h3 r => q p xs H' h1 h2 h3 (by rw [List.filter_eq_self.mpr fun _ _ => rfl] at r; exact r))
/-- [elt for tg in iter if c] -/
theorem pf_lcIf (hN : X.N.Nodup) (hi : PI X tg iter wi) (src : PSrc X es wi items) (ok : BlkOk X.N X.env.scope scope own)
    (hg : ∀ (s : Shared) (H : Hp) (C : Addr) (cl : List (Str × Addr)) (fp : List Addr), PG (X.blk s H scope (compEnvC scope cl C X.env) fp) tg g)
    (ga : ∀ d ∈ items, GA g d (F d) is) (his : ∀ i ∈ is, i ∈ own.map (·.2))
    (ht : ∀ (s : Shared) (H : Hp) (C : Addr) (cl : List (Str × Addr)) (fp : List Addr), ∀ d ∈ items, PB (X.blk s H scope (compEnvC scope cl C X.env) fp) (F d (wipeE es (own.map (·.2)))) c (b d))
    (he : ∀ (s : Shared) (H : Hp) (C : Addr) (cl : List (Str × Addr)) (fp : List Addr), ∀ d ∈ items, b d = true → PV (X.blk s H scope (compEnvC scope cl C X.env) fp) (F d (wipeE es (own.map (·.2)))) elt (out d)) (hz : items.length ≤ 100000) (hc : X.calm = true := by rfl) (hs : ∀ x, foldedSetIterable iter X.env x = pure x := by intro _; rfl) :
    PF X es (.ListComp elt [⟨tg, iter, [c], 0⟩] scope pos) ((items.filter b).map out) := fun B C O σ H S Q q =>
  wE_of (pe_lc hc hN hi ok hg (tt := wTb X scope c) (fun s H C cl fp => pts_one ⟨fun pins s' σ H Q I h => h s _ C cl fp pins s' I⟩) (te := wEb X scope elt) (fun s H C cl fp => ⟨fun pins s' σ H Q I h => h s _ C cl fp pins s' I⟩) hs)
    (lc_data src ga his (fun d hd => ev_tb fun s H0 C0 cl fp => ht s H0 C0 cl fp d hd) (fun d hd hb => ev_b fun s H0 C0 cl fp => he s H0 C0 cl fp d hd hb) hz S q)
end

/-! ### statements -/
structure DE where
  nx : List Sl → Prop
  rt : List Sl → PyData → Prop
  bk : List Sl → Prop := fun _ => False
  ct : List Sl → Prop := fun _ => False
structure Good (B : Hp) (C : Addr → Prop) (D : Ends) (P : DE) : Prop where
  nx : ∀ (O : Addr → Prop) (H : Hp) (σ : L2.St) (es : List Sl), Sit B C O H σ es → P.nx es → D.nx σ H
  rt : ∀ (O : Addr → Prop) (H : Hp) (σ : L2.St) (es : List Sl) (v : V) (d : PyData), Sit B C O H σ es → Rp (hid O H) v d → P.rt es d → D.rt v H
  bk : ∀ (O : Addr → Prop) (H : Hp) (σ : L2.St) (es : List Sl), Sit B C O H σ es → P.bk es → D.bk σ H
  ct : ∀ (O : Addr → Prop) (H : Hp) (σ : L2.St) (es : List Sl), Sit B C O H σ es → P.ct es → D.ct σ H
def wS (X : Cx) (st : Stmt) : TS := fun D σ H => ∀ (pins : List (Addr × Obj)) (s : Shared), Inv X pins σ H s → wpAny (model X.prog X.w) X.A (exec st X.env) (SP X pins D) X.xe s
def wSs (X : Cx) (l : List Stmt) : TS := fun D σ H => ∀ (pins : List (Addr × Obj)) (s : Shared), Inv X pins σ H s → wpAny (model X.prog X.w) X.A (execs l X.env) (SP X pins D) X.xe s
theorem ps_w {X : Cx} (st : Stmt) : PS X st (wS X st) := ⟨fun pins s _ _ _ I h => h pins s I⟩
theorem pss_w {X : Cx} (l : List Stmt) : PSs X l (wSs X l) := ⟨fun pins s _ _ _ I h => h pins s I⟩
theorem wS_of {X : Cx} {st : Stmt} {t : TS} {D : Ends} {σ : L2.St} {H : Hp} (h : PS X st t) (q : t D σ H) : wS X st D σ H := fun pins s I => h.run pins s σ H D I q
theorem wSs_of {X : Cx} {l : List Stmt} {t : TS} {D : Ends} {σ : L2.St} {H : Hp} (h : PSs X l t) (q : t D σ H) : wSs X l D σ H := fun pins s I => h.run pins s σ H D I q
def SS (X : Cx) (es : List Sl) (st : Stmt) (P : DE) : Prop := ∀ (B : Hp) (C O : Addr → Prop) (σ : L2.St) (H : Hp) (D : Ends), Sit B C O H σ es → Good B C D P → wS X st D σ H
def SR (X : Cx) (es : List Sl) (l : List Stmt) (P : DE) : Prop := ∀ (B : Hp) (C O : Addr → Prop) (σ : L2.St) (H : Hp) (D : Ends), Sit B C O H σ es → Good B C D P → wSs X l D σ H
section
variable {X : Cx} {es : List Sl} {st : Stmt} {l l2 : List Stmt} {P : DE} {e c a : Expr} {d : PyData} {ds : List PyData} {pos py : Pos} {x : Str} {i : Nat}
theorem sr_nil (h : P.nx es) : SR X es [] P := fun B C O σ H D S G => wSs_of pss_nil (G.nx O H σ es S h)
theorem sr_cons (h : SS X es st { P with nx := fun es' => SR X es' l P }) : SR X es (st :: l) P := fun B C O σ H D S G =>
  wSs_of (pss_cons (ps_w st) (pss_w l)) (h B C O σ H _ S ⟨fun O' H' σ' es' S' n => n B C O' σ' H' D S' G, G.rt, G.bk, G.ct⟩)
theorem ss_ret (h : PV X es e d) (q : P.rt es d) : SS X es (.Return (some e) pos) P := fun B C O σ H D S G => wS_of (ps_ret (pe_w e)) (h B C O σ H S _ fun v H' e1 r => G.rt O H' σ es v d (S.mono e1) r q)
theorem ss_if {b : Bool} (h : PB X es c b) (h1 : b = true → SR X es l P) (h2 : b = false → SR X es l2 P) : SS X es (.If c l l2 pos) P := fun B C O σ H D S G =>
  wS_of (ps_if (pt_w c) (pss_w l) (pss_w l2)) (h B C O σ H S _ fun H1 e1 => by
    cases b with
    | true => rw [if_pos rfl]; exact h1 rfl B C O σ H1 D (S.mono e1) G
    | false => rw [if_neg Bool.false_ne_true]; exact h2 rfl B C O σ H1 D (S.mono e1) G)
theorem ss_set (i : Nat) (hN : X.N.Nodup) (h : PV X es e d) (q : P.nx (es.set i (.val d))) (hi : X.N[i]? = some x := by rfl) (hx : Loc X.env.scope x := by first | exact .inl rfl | exact .inr rfl) (hs : swapsWith e (some (.Name x py)) pos.line X.env = pure false := by rfl)
    (hf : X.fn x = true ∨ X.env.scope.names.lookup x = some .local := by first | exact .inl rfl | exact .inr rfl) : SS X es (.Assign [.Name x py] e pos) P := fun B C O σ H D S G =>
  wS_of (ps_set hN hi hx (pe_w e) hs hf) (h B C O σ H S _ fun v H' e1 r => G.nx O H' _ _ ((S.mono e1).setVal r) q)
theorem ss_setOwn (i : Nat) (hN : X.N.Nodup) (h : PF X es e ds) (q : P.nx (es.set i (.own ds))) (hi : X.N[i]? = some x := by rfl) (hx : Loc X.env.scope x := by first | exact .inl rfl | exact .inr rfl) (hs : swapsWith e (some (.Name x py)) pos.line X.env = pure false := by rfl)
    (hf : X.fn x = true ∨ X.env.scope.names.lookup x = some .local := by first | exact .inl rfl | exact .inr rfl) : SS X es (.Assign [.Name x py] e pos) P := fun B C O σ H D S G =>
  wS_of (ps_set hN hi hx (pe_w e) hs hf) (h B C O σ H S _ fun p xs H' h1 e1 h2 r => G.nx _ H' _ _ (S.setOwn h1 e1 h2 r) q)
/-- target = e, the target of any form -/
theorem ss_asg {tg : Expr} {g : TG} {F : List Sl → List Sl} {is : List Nat} (hg : PG X tg g) (ga : GA g d F is) (h : PV X es e d) (q : P.nx (F es)) (hs : swapsWithSole [tg] e pos.line X.env = pure false := by rfl) (hw : swappedStores [tg] e X.env = pure none := by rfl)
    (h1 : (assignEach [tg] X.env).map (·.2) = [assign tg X.env] := by rfl) : SS X es (.Assign [tg] e pos) P := fun B C O σ H D S G =>
  wS_of (ps_asg (pe_w e) hg hs hw h1) (h B C O σ H S _ fun v H' e1 r => ga B C O σ H' es v (S.mono e1) r _ fun σ' S' _ => G.nx O H' σ' _ S' q)
/-- an own list is given up -/
theorem sr_freeze (i : Nat) (hi : es[i]? = some (.own ds)) (h : SR X (es.set i (.val (.list ds))) l P) : SR X es l P := fun B C O σ H D S G => by
  obtain ⟨O', S'⟩ := S.freeze hi
  exact h B C O' σ H D S' G
theorem sr_forget (i : Nat) (h : SR X (es.set i .no) l P) : SR X es l P := fun B C O σ H D S G => h B C O σ H D S.forget G
/-- xs.append(e), xs an own list -/
theorem ss_append (i : Nat) {y : Str} {p1 p2 p3 : Pos} (hi : es[i]? = some (.own ds)) (h : PV X es e d) (hz : ds.length < 100000) (q : P.nx (es.set i (.own (ds ++ [d])))) (hN : X.N[i]? = some y := by rfl) (hv : Vis X.env.scope y := by first | exact Or.inl rfl | exact Or.inr (Or.inl rfl) | exact Or.inr (Or.inr rfl))
    (hd : (y == ("__debug__" : Str)) = false := by decide) (hcd : (y == ("__classdict__" : Str)) = false := by decide) {t : TE → TE} (hp : ∀ te : TE, PE X (.Name y p1) (tVar i) → PE X e te → PE X (.Call (.Attribute (.Name y p1) "append" p2) [e] [] p3) (tBM X.K "list" rAppend (tVar i) (tCons te tNil)))
    (hs : swapsWith (.Call (.Attribute (.Name y p1) "append" p2) [e] [] p3) none pos.line X.env = pure false := by rfl) : SS X es (.Expr (.Call (.Attribute (.Name y p1) "append" p2) [e] [] p3) pos) P := fun B C O σ H D S G =>
  wS_of (ps_expr (hp (wE X e) (pe_var hN hv hd hcd) (pe_w e)) hs) (by
    obtain ⟨p, xs, w, h1, r⟩ := S.slot i _ hi
    refine ⟨_, w.ref, .inl ⟨rfl, _, SqL.of h1⟩, h B C O σ H S _ fun v H' e1 rv => ?_⟩
    refine ⟨p, xs, v, rfl, rfl, e1 _ _ h1, ?_, ?_⟩
    · rw [r.len]; exact Nat.lt_of_lt_of_le hz (by decide)
    · exact G.nx O _ σ _ ((S.mono e1).write hi w.ref ((r.mono (hid_ex e1)).snoc rv)) q)
end
end PcW
set_option Elab.async false
set_option linter.all false
set_option maxRecDepth 100000
set_option maxHeartbeats 4000000
/-! More rules: zip of a list and a tuple, loops, own lists changed, sorted rows, a def by its body. -/
namespace PcW
open PySem PySem.Spec PyProof.Rows L2

/-! ### zip(list, tuple) -/
def ItzM (K : PySem.W.Frag) (a b : Addr) : It where
  go := fun i H => ∃ (xs ys : List V) (x y : V), SqL K H a xs ∧ SqT K H b ys ∧ xs[i]? = some x ∧ ys[i]? = some y
  yld := fun i H v H' => ∃ T x y, v = .ref T ∧ H T = none ∧ H' = upd H T (.tup [x, y]) ∧ (∀ xs, SqL K H a xs → xs[i]? = some x) ∧ ∀ ys, SqT K H b ys → ys[i]? = some y
  stop := fun i H => ∃ xs ys : List V, SqL K H a xs ∧ SqT K H b ys ∧ i = min xs.length ys.length
theorem zipM_sep (N a b : Nat) (ha : a < N) (hb : b < N) : ZipSep2 (N + 4) (N + 2) (N + 3) N (N + 1) [N, a] [N + 1, b] :=
  zip_sep2 (N := N) (fp1 := [a]) (fp2 := [b]) (fun c hc => by rw [List.mem_singleton.mp hc]; exact ha) (fun c hc => by rw [List.mem_singleton.mp hc]; exact hb)
def ZSt (a b z TI TO i1 i2 : Addr) (i : Nat) (h : Heap) : Prop := IsZip h z TI TO .none ∧ IsTupOf2 h TI (.ref i1) (.ref i2) ∧ (∃ a1 a2, IsTupOf2 h TO a1 a2) ∧ h.IsListIter i1 a i ∧ h.IsTupleIter i2 b i
theorem turn_zipM {P : Program} {w : World} {K : PySem.W.Frag} {elts : List Expr} {kk : Nat} {tpos : Pos} {a b z TI TO i1 i2 : Addr} (D : ZipSep2 z TI TO i1 i2 [i1, a] [i2, b]) (na : a ≠ i1) (nb : b ≠ i2) :
    Turn P w K (.Tuple elts kk tpos) (ItzM K a b) [z, TI, TO, i1, i2] z (ZSt a b z TI TO i1 i2) where
  mem := by simp
  obj := fun i h ⟨hz, hTI, ⟨x, y, hTO⟩, ⟨o1, e1, _, d1⟩, ⟨o2, e2, _, d2⟩⟩ c hc => by
    simp only [List.mem_cons, List.not_mem_nil, or_false] at hc
    rcases hc with q | q | q | q | q
    · exact ⟨_, by rw [q]; exact hz, fun v q => by cases q⟩
    · exact ⟨_, by rw [q]; exact hTI, fun v q => by cases q⟩
    · exact ⟨_, by rw [q]; exact hTO, fun v q => by cases q⟩
    · exact ⟨o1, by rw [q]; exact e1, fun v q => by rw [d1] at q; cases q⟩
    · exact ⟨o2, by rw [q]; exact e2, fun v q => by rw [d2] at q; cases q⟩
  keep := fun i h h' ⟨hz, hTI, ⟨x, y, hTO⟩, h1, h2⟩ k =>
    ⟨k z (by simp) _ hz, k TI (by simp) _ hTI, ⟨x, y, k TO (by simp) _ hTO⟩, h1.at fun o q => k i1 (by simp) o q, h2.at fun o q => k i2 (by simp) o q⟩
  item := by
    intro X hP hw hK hc i pins s σ H E I hf st hg
    subst hP hw hK
    obtain ⟨xs, ys, x, y, hqx, hqy, hx, hy⟩ := hg
    obtain ⟨its, rv, p, _⟩ := I.list hqx
    obtain ⟨its2, rv2, p2, _⟩ := I.tuple hqy
    obtain ⟨hz, hTI, hTO, h1, h2⟩ := st
    have hh : X.A.handled = none := I.ok.hd hc
    have W := GoesN.zip2 (elts := elts) (x1 := kk) (pos := tpos) D (Draws.list (prog := X.prog) (w := X.w) (A := X.A.in1) hh i1 a na its.toArray) (Draws.tuple (prog := X.prog) (w := X.w) (A := X.A.in1) hh i2 b nb its2.toArray)
    have l1 : its.toArray.size = xs.length := by rw [List.size_toArray]; exact rv.length.symm
    have l2 : its2.toArray.size = ys.length := by rw [List.size_toArray]; exact rv2.length.symm
    have hi : i < min its.toArray.size its2.toArray.size := by
      have q1 := (List.getElem?_eq_some_iff.mp hx).1
      have q2 := (List.getElem?_eq_some_iff.mp hy).1
      omega
    have fpc : ∀ c ∈ [z, TO, i1, i2], FpOk X pins H c := fun c hc => hf c (by
      simp only [List.mem_cons, List.not_mem_nil, or_false] at hc ⊢
      rcases hc with q | q | q | q
      · exact .inl q
      · exact .inr (.inr (.inl q))
      · exact .inr (.inr (.inr (.inl q)))
      · exact .inr (.inr (.inr (.inr q))))
    refine W.goes i s _ E hi ⟨hz, hTI, hTO, ⟨h1, p.isList⟩, h2, p2⟩ fun v h' tk hY st' hk _ => ?_
    obtain ⟨T, u, u2, rfl, hTn, hu, hu2, hT⟩ := hY
    obtain ⟨hz', hTI', hTO', ⟨h1', _⟩, h2', _⟩ := st'
    obtain ⟨v1, e1, r1⟩ := rv.get hx
    obtain ⟨v2, e2, r2⟩ := rv2.get hy
    have eu : u = v1 := by
      have q : its.toArray[i]? = some v1 := by simpa using e1
      exact Option.some.inj (hu.symm.trans q)
    have eu2 : u2 = v2 := by
      have q : its2.toArray[i]? = some v2 := by simpa using e2
      exact Option.some.inj (hu2.symm.trans q)
    subst eu eu2
    have new : ObjOk X.prog X.w (upd H T (.tup [x, y])) h' T (.tup [x, y]) := ⟨by show 2 ≤ sizeLine; decide, [u, u2], .cons r1 (.cons r2 .nil), hT⟩
    have I1 : Inv X pins σ (upd H T (.tup [x, y])) { s with heap := h', toks := tk } := I.turnedNew (t' := tk) (ch := [z, TO, i1, i2]) hk fpc hTn new
    refine ⟨.ref T, _, I1, rfl, ⟨T, x, y, rfl, I.hok.fresh hTn, rfl, fun l hl => by rw [I.list_inj hl hqx]; exact hx, fun l hl => by rw [I.tuple_inj hl hqy]; exact hy⟩, ⟨hz', hTI', hTO', h1', h2'⟩, fun c hcm => ?_⟩
    have hlt : c < s.heap.objs.size := by
      simp only [List.mem_cons, List.not_mem_nil, or_false] at hcm
      obtain ⟨x0, y0, hTO⟩ := hTO
      obtain ⟨_, e1, _⟩ := h1
      obtain ⟨_, e2, _⟩ := h2
      rcases hcm with q | q | q | q | q
      · rw [q]; exact Heap.lt_size hz
      · rw [q]; exact Heap.lt_size hTI
      · rw [q]; exact Heap.lt_size hTO
      · rw [q]; exact Heap.lt_size e1
      · rw [q]; exact Heap.lt_size e2
    rw [upd_ne (Nat.ne_of_lt (Nat.lt_of_lt_of_le hlt hTn))]
    exact (hf c hcm).1
  done := by
    intro X hP hw hK hc i pins s σ H E I hf st hg
    subst hP hw hK
    obtain ⟨xs, ys, hqx, hqy, hi⟩ := hg
    obtain ⟨its, rv, p, _⟩ := I.list hqx
    obtain ⟨its2, rv2, p2, _⟩ := I.tuple hqy
    obtain ⟨hz, hTI, hTO, h1, h2⟩ := st
    have hh : X.A.handled = none := I.ok.hd hc
    have W := GoesN.zip2 (elts := elts) (x1 := kk) (pos := tpos) D (Draws.list (prog := X.prog) (w := X.w) (A := X.A.in1) hh i1 a na its.toArray) (Draws.tuple (prog := X.prog) (w := X.w) (A := X.A.in1) hh i2 b nb its2.toArray)
    have l1 : its.toArray.size = xs.length := by rw [List.size_toArray]; exact rv.length.symm
    have l2 : its2.toArray.size = ys.length := by rw [List.size_toArray]; exact rv2.length.symm
    have hi' : i = min its.toArray.size its2.toArray.size := by rw [l1, l2]; exact hi
    have fpc : ∀ c ∈ [z, TO, i1, i2], FpOk X pins H c := fun c hc => hf c (by
      simp only [List.mem_cons, List.not_mem_nil, or_false] at hc ⊢
      rcases hc with q | q | q | q
      · exact .inl q
      · exact .inr (.inr (.inl q))
      · exact .inr (.inr (.inr (.inl q)))
      · exact .inr (.inr (.inr (.inr q))))
    refine W.stops s _ E (by rw [← hi']; exact ⟨hz, hTI, hTO, ⟨h1, p.isList⟩, h2, p2⟩) fun h' tk hk _ => ?_
    exact I.turnedL (t' := tk) (ch := [z, TO, i1, i2]) hk fpc
  self := fun A i s Q E st h => wpAny_pyIter_zip st.1 h
def iZipM (K : PySem.W.Frag) (ta : TA) : TI := fun σ H R => ta σ H fun vs H1 => ∃ a b xs ys, vs = [.ref a, .ref b] ∧ SqL K H1 a xs ∧ SqT K H1 b ys ∧ R (ItzM K a b) H1
theorem pi_zipM {X : Cx} {e e2 : Expr} {ta : TA} {p pos tpos : Pos} {elts : List Expr} {kk : Nat} (hg : Gl X "zip") (hm : X.mg "zip" = none) (ha : PA X [e, e2] ta)
    (hs : starEach [e, e2] X.env = (false, eval e X.env) :: starEach [e2] X.env := by rfl) (hpl : (backTo pos (starEach [e2] X.env)).any (·.1) = false := by rfl) :
    PI X (.Tuple elts kk tpos) (.Call (.Name "zip" p) [e, e2] [] pos) (iZipM X.K ta) := by
  refine ⟨fun pins s σ H R I h => Call_ (ld_blt I hg hm PyProof.Rows.boot_zip (PyProof.Rows.callWith_type1 (thn (ha.run pos pins s σ H _ I h) fun us s1 ⟨vs, H1, I1, r1, q1⟩ => ?_) hs hpl))⟩
  obtain ⟨a, b, xs, ys, rfl, hqx, hqy, q⟩ := q1
  cases r1 with
  | cons r rr =>
    cases rr with
    | cons r' rr =>
      cases rr
      cases r
      cases r'
      obtain ⟨its, rv, p1, _⟩ := I1.list hqx
      obtain ⟨its2, rv2, p2, _⟩ := I1.tuple hqy
      have la : a < s1.heap.objs.size := p1.lt
      have lb : b < s1.heap.objs.size := p2.lt
      refine zip_begins2 (begins_list a its.toArray) (begins_tuple b its2.toArray) p1.isList p2 fun h' hz hTI hTO g1 g2 hsz hk => wpAny_pyIter_zip hz ?_
      refine ⟨s1.heap.objs.size + 4, [s1.heap.objs.size + 4, s1.heap.objs.size + 2, s1.heap.objs.size + 3, s1.heap.objs.size, s1.heap.objs.size + 1], _, _, H1, rfl, I1.kept (t' := s1.toks) hk, turn_zipM (zipM_sep _ _ _ la lb) (Nat.ne_of_lt la) (Nat.ne_of_lt (Nat.lt_succ_of_lt lb)), ⟨hz, hTI, ⟨_, _, hTO⟩, ⟨_, g1, rfl, rfl⟩, ⟨_, g2, rfl, rfl⟩⟩, fun c hcm => ?_, q⟩
      have hle : s1.heap.objs.size ≤ c := by
        simp only [List.mem_cons, List.not_mem_nil, or_false] at hcm
        rcases hcm with z | z | z | z | z <;> rw [z] <;> first | exact Nat.le_add_right _ _ | exact Nat.le_refl _
      exact I1.fpOk hle (I1.hok.fresh hle)
section
variable {X : Cx} {es : List Sl}
theorem fsrc_zipM {a b : Expr} {ds1 ds2 : List PyData} (h : PVs X es [a, b] [.list ds1, .tuple ds2]) : FSrc X es (iZipM X.K (wA X [a, b])) (zd ds1 ds2) := fun B C O σ H S R q => h B C O σ H S _ fun vs H1 e1 r => by
  cases r with
  | cons ra r =>
    cases r with
    | cons rb r =>
      cases r
      obtain ⟨p, xs, rfl, h1, r1⟩ := rp_lst ra
      obtain ⟨p2, ys, rfl, h2, r2⟩ := rp_tup rb
      have hl : (zd ds1 ds2).length = min ds1.length ds2.length := List.length_zipWith
      refine ⟨p, p2, xs, ys, rfl, SqL.of (hid_sub _ _ h1), SqT.of (hid_sub _ _ h2), q _ H1 e1 ⟨fun H' e => ⟨xs, ys, SqL.of (e _ _ h1), SqT.of (e _ _ h2), by rw [hl, r1.len, r2.len]⟩, fun i hi H' e => ?_, fun i d hd H' v H'' e y => ?_⟩⟩
      · rw [hl] at hi
        obtain ⟨v, hv, _⟩ := r1.get (List.getElem?_eq_getElem (show i < ds1.length by omega))
        obtain ⟨u, hu, _⟩ := r2.get (List.getElem?_eq_getElem (show i < ds2.length by omega))
        exact ⟨xs, ys, v, u, SqL.of (e _ _ h1), SqT.of (e _ _ h2), hv, hu⟩
      · obtain ⟨T, x, y, rfl, hT, rfl, f1, f2⟩ := y
        refine ⟨Ex.new hT, fun O2 e2 dm => ?_⟩
        obtain ⟨d1, g1, q1⟩ := r1.getV (f1 xs (SqL.of (e _ _ h1)))
        obtain ⟨d2, g2, q2⟩ := r2.getV (f2 ys (SqT.of (e _ _ h2)))
        have : d = .tuple [d1, d2] := by
          unfold zd at hd
          rw [List.getElem?_zipWith, g1, g2] at hd
          cases hd; rfl
        subst this
        have ex : Ex (hid O H1) (hid O2 (upd H' T (.tup [x, y]))) := e2.trans (hid_ex (Ex.new hT))
        exact .tup (hid_at dm hT upd_same) (.cons (q1.mono ex) (.cons (q2.mono ex) .nil))

/-! ### for -/
variable {tg iter : Expr} {body : List Stmt} {wi : TI} {g : TG} {is : List Nat} {items : List PyData} {F : PyData → List Sl → List Sl} {P : DE} {pos : Pos}
theorem ss_for (hi : PI X tg iter wi) (src : FSrc X es wi items) (hg : PG X tg g) (ga : ∀ d ∈ items, GA g d (F d) is) (I : Nat → List Sl → Prop) (h0 : I 0 es)
    (hs : ∀ (i : Nat) (d : PyData) (es' : List Sl), items[i]? = some d → I i es' → SR X (F d es') body { P with nx := I (i + 1), ct := I (i + 1), bk := P.nx }) (hd : ∀ es', I items.length es' → P.nx es')
    (hp : PassesOwn (model X.prog X.w) X.A X.env X.xe := by exact PassesOwn.never) (hc : X.calm = true := by rfl) (hf : ∀ x, foldedSetIterable iter X.env x = pure x := by intro _; rfl) : SS X es (.For tg iter body [] pos) P := fun B C O σ H D S G =>
  wS_of (ps_for hp hc hi hg (pss_w body) hf) (src B C O σ H S _ fun J H1 e1 j => by
    have S1 := (S.mono e1).rebase
    have bx := (S.mono e1).base_ex
    generalize hB : hid (fun a => O a ∧ ¬ C a) H1 = B' at S1 bx
    have hcd : ∀ a, C a → ∃ o, B a = some o := S.cdom
    have kept : ∀ {O' H' σ' es'}, Sit B' C O' H' σ' es' → Ex (hid O H1) H' ∧ Ex (hid O H1) (hid O' H') := fun {O' H' σ' es'} S' => by
      have e2 : Ex (hid O H1) B' := by rw [← hB]; exact hid_anti fun a o _ q => q.1
      refine ⟨e2.trans S'.base, fun a o q => hid_some.mpr ⟨fun z => ?_, S'.base a o (e2 a o q)⟩⟩
      rcases S'.fresh a z with c | c
      · exact (hid_some.mp q).1 (S.sub a c)
      · rw [e2 a o q] at c; cases c
    refine ⟨fun i m σ' H' => m = items.length - i ∧ i ≤ items.length ∧ ∃ O' es', Sit B' C O' H' σ' es' ∧ I i es', ⟨items.length, by omega, Nat.zero_le _, O, es, S1, h0⟩, ?_⟩
    rintro i m σ' H' ⟨rfl, hi, O', es', S', hI⟩
    obtain ⟨k1, k2⟩ := kept S'
    by_cases hlt : i < items.length
    · refine .inr ⟨j.go i hlt H' k1, fun σ2 H2 => i + 1 ≤ items.length ∧ ∃ O' es', Sit B' C O' H2 σ2 es' ∧ I (i + 1) es', fun σ2 H2 h2 => ⟨items.length - (i + 1), by omega, rfl, h2⟩, fun x H2 y => ?_⟩
      have hd' : items[i]? = some items[i] := List.getElem?_eq_getElem hlt
      have hmem : items[i] ∈ items := List.getElem_mem hlt
      generalize hdd : items[i] = d at hd' hmem
      obtain ⟨e3, rx⟩ := j.yld i d hd' H' x H2 k1 y
      have rx := rx O' k2 S'.dom
      refine ga d hmem B' C O' σ' H2 es' x (S'.mono e3) rx _ fun σ3 S3 _ => ?_
      exact hs i d es' hd' hI B' C O' σ3 H2 _ S3 ⟨fun O4 H4 σ4 es4 S4 n => ⟨hlt, O4, es4, S4, n⟩, fun O4 H4 σ4 es4 v d S4 r n => G.rt O4 H4 σ4 es4 v d (S4.debase bx hcd) r n, fun O4 H4 σ4 es4 S4 n => G.nx O4 H4 σ4 es4 (S4.debase bx hcd) n, fun O4 H4 σ4 es4 S4 n => ⟨hlt, O4, es4, S4, n⟩⟩
    · have e : i = items.length := by omega
      subst e
      exact .inl ⟨j.stop H' k1, G.nx O' H' σ' es' (S'.debase bx hcd) (hd es' hI)⟩)

/-! ### own lists changed -/
variable {e : Expr} {d : PyData} {ds : List PyData} {x y : Str} {py p1 p2 p3 : Pos}
theorem ss_app (i : Nat) (hi : es[i]? = some (.own ds)) (h : PV X es e d) (hz : ds.length < 100000) (q : P.nx (es.set i (.own (ds ++ [d])))) (hN : X.N[i]? = some y := by rfl) (hv : Vis X.env.scope y := by first | exact Or.inl rfl | exact Or.inr (Or.inl rfl) | exact Or.inr (Or.inr rfl))
    (hd : (y == ("__debug__" : Str)) = false := by decide) (hcd : (y == ("__classdict__" : Str)) = false := by decide) (hbase : attributeBase (.Name y p1) "append" X.env (eval (.Name y p1) X.env) = eval (.Name y p1) X.env := by rfl)
    (hfew : ((backTo p3 (starEach [e] X.env)).all (fun x => !x.1) && (backToKw p3 (keywordEach [] X.env)).all (fun x => x.1.isSome) && decide (([e] : List Expr).length + ([] : List Keyword).length + (if ([] : List Keyword).isEmpty then 0 else 1) < 30)) = true := by rfl)
    (hline : (p2.endLine == p3.line) = true := by rfl) (hse : starEach [e] X.env = (false, eval e X.env) :: starEach [] X.env := by rfl) (hpl : (backTo p3 (starEach [] X.env)).any (·.1) = false := by rfl)
    (hs : swapsWith (.Call (.Attribute (.Name y p1) "append" p2) [e] [] p3) none pos.line X.env = pure false := by rfl) : SS X es (.Expr (.Call (.Attribute (.Name y p1) "append" p2) [e] [] p3) pos) P := fun B C O σ H D S G =>
  wS_of (ps_expr (pe_bm PySem.F.plainAttrs_list PySem.F.slot_list_append PySem.F.type_list_append mt_append (pe_var hN hv hd hcd) (pa_cons (pe_w e) pa_nil hse) hbase hfew hline hse hpl) hs) (by
    obtain ⟨p, xs, w, h1, r⟩ := S.slot i _ hi
    refine ⟨_, w.ref, .inl ⟨rfl, _, SqL.of h1⟩, h B C O σ H S _ fun v H' e1 rv => ?_⟩
    exact ⟨p, xs, v, rfl, rfl, e1 _ _ h1, by rw [r.len]; exact Nat.lt_of_lt_of_le hz (by decide), G.nx O _ σ _ ((S.mono e1).write hi w.ref ((r.mono (hid_ex e1)).snoc rv)) q⟩)
/-- x = xs.pop(k), xs an own list -/
theorem ss_pop (i j : Nat) (hN : X.N.Nodup) {k : Nat} (hi : es[i]? = some (.own ds)) (h : PV X es e (.int (k : Int))) (hk : ds[k]? = some d) (hz : ds.length ≤ 100000) (q : P.nx ((es.set i (.own (ds.eraseIdx k))).set j (.val d))) (hNi : X.N[i]? = some y := by rfl) (hNj : X.N[j]? = some x := by rfl) (hv : Vis X.env.scope y := by first | exact Or.inl rfl | exact Or.inr (Or.inl rfl) | exact Or.inr (Or.inr rfl))
    (hx : Loc X.env.scope x := by first | exact .inl rfl | exact .inr rfl)
    (hd : (y == ("__debug__" : Str)) = false := by decide) (hcd : (y == ("__classdict__" : Str)) = false := by decide) (hbase : attributeBase (.Name y p1) "pop" X.env (eval (.Name y p1) X.env) = eval (.Name y p1) X.env := by rfl)
    (hfew : ((backTo p3 (starEach [e] X.env)).all (fun x => !x.1) && (backToKw p3 (keywordEach [] X.env)).all (fun x => x.1.isSome) && decide (([e] : List Expr).length + ([] : List Keyword).length + (if ([] : List Keyword).isEmpty then 0 else 1) < 30)) = true := by rfl)
    (hline : (p2.endLine == p3.line) = true := by rfl) (hse : starEach [e] X.env = (false, eval e X.env) :: starEach [] X.env := by rfl) (hpl : (backTo p3 (starEach [] X.env)).any (·.1) = false := by rfl)
    (hs : swapsWith (.Call (.Attribute (.Name y p1) "pop" p2) [e] [] p3) (some (.Name x py)) pos.line X.env = pure false := by rfl)
    (hf : X.fn x = true ∨ X.env.scope.names.lookup x = some .local := by first | exact .inl rfl | exact .inr rfl) : SS X es (.Assign [.Name x py] (.Call (.Attribute (.Name y p1) "pop" p2) [e] [] p3) pos) P := fun B C O σ H D S G =>
  wS_of (ps_set hN hNj hx (pe_bm PySem.F.plainAttrs_list PySem.F.slot_list_pop PySem.F.type_list_pop mt_popAt (pe_var hNi hv hd hcd) (pa_cons (pe_w e) pa_nil hse) hbase hfew hline hse hpl) hs hf) (by
    obtain ⟨p, xs, w, h1, r⟩ := S.slot i _ hi
    refine ⟨_, w.ref, .inl ⟨rfl, _, SqL.of h1⟩, h B C O σ H S _ fun v H' e1 rv => ?_⟩
    cases rp_int rv
    obtain ⟨u, hu, ru⟩ := r.get hk
    have hkl : k < xs.length := (List.getElem?_eq_some_iff.mp hu).1
    have hxl : xs.length ≤ 100000 := by rw [r.len]; exact hz
    refine ⟨p, xs, (k : Int), k, u, rfl, rfl, e1 _ _ h1, by omega, by omega, ?_, hu, ?_⟩
    · exact (ixN_seq (n := xs.length) (i := (k : Int)) (j := k) (by unfold ixN; rw [if_pos (by omega), if_pos (by omega)]; simp)).1
    · have S2 := (S.mono e1).write hi w.ref ((r.mono (hid_ex e1)).erase k)
      exact G.nx O _ _ _ (S2.setVal (by rw [hid_upd w.own]; exact ru.mono (hid_ex e1))) q)
/-- xs[i] = e, xs an own list -/
theorem ss_setAt (i : Nat) {k : Nat} {ix : Expr} (hi : es[i]? = some (.own ds)) (h : PV X es e d) (hx : PV X es ix (.int (k : Int))) (hk : k < ds.length) (q : P.nx (es.set i (.own (ds.set k d)))) (hNi : X.N[i]? = some y := by rfl) (hv : Vis X.env.scope y := by first | exact Or.inl rfl | exact Or.inr (Or.inl rfl) | exact Or.inr (Or.inr rfl))
    (hd : (y == ("__debug__" : Str)) = false := by decide) (hcd : (y == ("__classdict__" : Str)) = false := by decide)
    (ha : ∀ v, assign (.Subscript (.Name y p1) ix p2) X.env v = (do
      let ov ← holding [v] (eval (.Name y p1) X.env)
      let iv ← holding [v, ov] (eval ix X.env)
      standAt p2
      holding [v, ov, iv] (setItem ov iv v)
      release [v, ov, iv] []) := by intro _; rfl)
    (hs : swapsWithSole [.Subscript (.Name y p1) ix p2] e pos.line X.env = pure false := by rfl) (hw : swappedStores [.Subscript (.Name y p1) ix p2] e X.env = pure none := by rfl)
    (h1 : (assignEach [.Subscript (.Name y p1) ix p2] X.env).map (·.2) = [assign (.Subscript (.Name y p1) ix p2) X.env] := by rfl) : SS X es (.Assign [.Subscript (.Name y p1) ix p2] e pos) P := fun B C O σ H D S G =>
  wS_of (ps_asg (pe_w e) (pg_sub (pe_var hNi hv hd hcd) (pe_w ix) set_list ha) hs hw h1) (h B C O σ H S _ fun v H1 e1 rv => by
    obtain ⟨p, xs, w, hl, r⟩ := S.slot i _ hi
    refine ⟨_, w.ref, hx B C O σ H1 (S.mono e1) _ fun u H2 e2 ru => ?_⟩
    cases rp_int ru
    have e12 := e1.trans e2
    refine ⟨p, xs, (k : Int), k, rfl, rfl, e12 _ _ hl, ?_, ?_⟩
    · unfold ixN
      rw [if_pos (by omega), if_pos (by rw [r.len]; omega)]; simp
    · exact G.nx O _ σ _ ((S.mono e12).write hi w.ref ((r.mono (hid_ex e12)).set k (rv.mono (hid_ex e2)))) q)
/-- x = [elt for ..] -/
theorem ss_setLc (i : Nat) {elt : Expr} {scope : Scope} {own : List (Str × Nat)} {lpos : Pos} {out : PyData → PyData} (hN : X.N.Nodup) (hi : PI X tg iter wi) (src : PSrc X es wi items) (ok : BlkOk X.N X.env.scope scope own)
    (hg : ∀ (s : Shared) (H : Hp) (C : Addr) (cl : List (Str × Addr)) (fp : List Addr), PG (X.blk s H scope (compEnvC scope cl C X.env) fp) tg g)
    (ga : ∀ d ∈ items, GA g d (F d) is) (his : ∀ i ∈ is, i ∈ own.map (·.2))
    (he : ∀ (s : Shared) (H : Hp) (C : Addr) (cl : List (Str × Addr)) (fp : List Addr), ∀ d ∈ items, PV (X.blk s H scope (compEnvC scope cl C X.env) fp) (F d (wipeE es (own.map (·.2)))) elt (out d)) (hz : items.length ≤ 100000)
    (q : P.nx (es.set i (.own (items.map out))))
    (hsw : swapsWith (.ListComp elt [⟨tg, iter, [], 0⟩] scope lpos) (some (.Name x py)) pos.line X.env = pure true) (hx : X.N[i]? = some x := by rfl) (hxl : X.env.scope.names.lookup x = some .local := by rfl) (hc : X.calm = true := by rfl) (hs : ∀ x, foldedSetIterable iter X.env x = pure x := by intro _; rfl) :
    SS X es (.Assign [.Name x py] (.ListComp elt [⟨tg, iter, [], 0⟩] scope lpos) pos) P := fun B C O σ H D S G =>
  wS_of (ps_setLc hc hN hx hxl hsw hi ok hg (fun _ _ _ _ _ => pts_nil) (te := wEb X scope elt) (fun s H C cl fp => ⟨fun pins s' σ H Q I h => h s _ C cl fp pins s' I⟩) hs)
    (lc_data (b := fun _ => true) src ga his (fun _ _ => ev_yes) (fun d hd _ => ev_b fun s H0 C0 cl fp => he s H0 C0 cl fp d hd) hz S fun p xs H' h1 e1 h3 r => G.nx _ H' _ _ (S.setOwn h1 e1 h3 (by rw [List.filter_eq_self.mpr fun _ _ => rfl] at r; exact r)) q)
theorem ss_setLcIf (i : Nat) {elt c : Expr} {scope : Scope} {own : List (Str × Nat)} {lpos : Pos} {out : PyData → PyData} {b : PyData → Bool} (hN : X.N.Nodup) (hi : PI X tg iter wi) (src : PSrc X es wi items) (ok : BlkOk X.N X.env.scope scope own)
    (hg : ∀ (s : Shared) (H : Hp) (C : Addr) (cl : List (Str × Addr)) (fp : List Addr), PG (X.blk s H scope (compEnvC scope cl C X.env) fp) tg g)
    (ga : ∀ d ∈ items, GA g d (F d) is) (his : ∀ i ∈ is, i ∈ own.map (·.2))
    (ht : ∀ (s : Shared) (H : Hp) (C : Addr) (cl : List (Str × Addr)) (fp : List Addr), ∀ d ∈ items, PB (X.blk s H scope (compEnvC scope cl C X.env) fp) (F d (wipeE es (own.map (·.2)))) c (b d))
    (he : ∀ (s : Shared) (H : Hp) (C : Addr) (cl : List (Str × Addr)) (fp : List Addr), ∀ d ∈ items, b d = true → PV (X.blk s H scope (compEnvC scope cl C X.env) fp) (F d (wipeE es (own.map (·.2)))) elt (out d)) (hz : items.length ≤ 100000)
    (q : P.nx (es.set i (.own ((items.filter b).map out))))
    (hsw : swapsWith (.ListComp elt [⟨tg, iter, [c], 0⟩] scope lpos) (some (.Name x py)) pos.line X.env = pure true) (hx : X.N[i]? = some x := by rfl) (hxl : X.env.scope.names.lookup x = some .local := by rfl) (hc : X.calm = true := by rfl) (hs : ∀ x, foldedSetIterable iter X.env x = pure x := by intro _; rfl) :
    SS X es (.Assign [.Name x py] (.ListComp elt [⟨tg, iter, [c], 0⟩] scope lpos) pos) P := fun B C O σ H D S G =>
  wS_of (ps_setLc hc hN hx hxl hsw hi ok hg (tt := wTb X scope c) (fun s H C cl fp => pts_one ⟨fun pins s' σ H Q I h => h s _ C cl fp pins s' I⟩) (te := wEb X scope elt) (fun s H C cl fp => ⟨fun pins s' σ H Q I h => h s _ C cl fp pins s' I⟩) hs)
    (lc_data src ga his (fun d hd => ev_tb fun s H0 C0 cl fp => ht s H0 C0 cl fp d hd) (fun d hd hb => ev_b fun s H0 C0 cl fp => he s H0 C0 cl fp d hd hb) hz S fun p xs H' h1 e1 h3 r => G.nx _ H' _ _ (S.setOwn h1 e1 h3 r) q)
end

/-! ### a def by its body -/
section
variable {P : Program} {w : World} {K : PySem.W.Frag} {mg : Str → Option Value} {base : Heap}
theorem start_len {N : List Str} {vs : List V} (h : vs.length ≤ N.length) : (L2.start N vs).length = N.length := by
  unfold L2.start
  rw [List.length_append, List.length_map, List.length_replicate]; omega
theorem start_at {N : List Str} {vs : List V} {i : Nat} {v : V} (h : vs[i]? = some v) : (L2.start N vs)[i]? = some (some v) := by
  unfold L2.start
  have hi := (List.getElem?_eq_some_iff.mp h).1
  rw [List.getElem?_append_left (by rw [List.length_map]; exact hi), List.getElem?_map, h]; rfl
/-- slots at the entry -/
def es0 (N : List Str) (ds : List PyData) : List Sl := ds.map .val ++ List.replicate (N.length - ds.length) .no
theorem fn_data {x qual : Str} {st : Stmt} {f : Addr} {fd : FuncData} {N ps : List Str} {k : Nat} {R : List PyData → PyData → Prop} (F : Fun K x qual st f fd) (Sc : FnScope N ps (defScope st)) (len : ∀ ds d, R ds d → ds.length = ps.length)
    (body : ∀ (cdv : Value) (A : Around) (outer : List Env) (s : Shared) (H : Hp) (E : XK) (ds : List PyData) (d : PyData), Room k (A.deeper (envOfC qual (defScope st) s.heap.objs.size f cdv)) → R ds d →
      SR (cxOf CX0 P w K mg base N qual (defScope st) f cdv A outer s H E).nox (es0 N ds) (defBody st) { nx := fun _ => d = .none, rt := fun _ d' => d' = d }) : FnOk P w K mg base CX0 (k + 1) f fd ps (spF R) := by
  have hpl : ps.length ≤ N.length := by
    have := congrArg List.length Sc.pre
    rw [List.length_take] at this; omega
  refine F.ok Sc (fun vs H Q E h => ?_) (fun cdv A outer s H vs Q E hr h => ⟨wSs _ (defBody st), pss_w _, ?_⟩)
  · obtain ⟨C, ds, d, _, r, hR, _⟩ := h
    rw [r.len]; exact len ds d hR
  · obtain ⟨C, ds, d, dm, r, hR, q⟩ := h
    have hl : ds.length ≤ N.length := by rw [len ds d hR]; exact hpl
    have S : Sit H C C H (L2.start N vs) (es0 N ds) := by
      refine ⟨Ex.refl H, fun _ h => h, dm, dm, fun a h => .inl h, ?_, fun i e h => ?_, fun i j e f p h1 h2 m1 => ?_⟩
      · rw [start_len (by rw [r.len]; exact hl)]
        unfold es0
        rw [List.length_append, List.length_map, List.length_replicate]; omega
      · unfold es0 at h
        by_cases hi : i < ds.length
        · rw [List.getElem?_append_left (by rw [List.length_map]; exact hi), List.getElem?_map, List.getElem?_eq_getElem hi] at h
          cases h
          obtain ⟨v, hv, rv⟩ := r.get (List.getElem?_eq_getElem hi)
          exact ⟨v, start_at hv, rv⟩
        · rw [List.getElem?_append_right (by rw [List.length_map]; omega), List.getElem?_replicate] at h
          split at h
          · cases h; trivial
          · cases h
      · unfold es0 at h1
        by_cases hi : i < ds.length
        · rw [List.getElem?_append_left (by rw [List.length_map]; exact hi), List.getElem?_map, List.getElem?_eq_getElem hi] at h1
          cases h1; cases m1
        · rw [List.getElem?_append_right (by rw [List.length_map]; omega), List.getElem?_replicate] at h1
          split at h1
          · cases h1; cases m1
          · cases h1
    refine body cdv A outer s H E ds d hr hR H C C (L2.start N vs) H _ S ⟨fun O H' σ es S' n => ?_, fun O H' σ es v d' S' r' n => ?_, fun _ _ _ _ _ n => n.elim, fun _ _ _ _ _ n => n.elim⟩
    · exact q _ H' S'.base (by rw [n]; exact .non)
    · rw [n] at r'
      exact q v H' S'.base (r'.mono (hid_anti fun a o _ c => S'.sub a c))
/-- a def whose first argument is the list of two ints that it turns -/
theorem fn_state {x qual : Str} {st : Stmt} {f : Addr} {fd : FuncData} {N ps : List Str} {k : Nat} {ok : List PyData → Prop} {R : List PyData → PyData → Prop} (F : Fun K x qual st f fd) (Sc : FnScope N ps (defScope st)) (len : ∀ ds, ok ds → ds.length + 1 = ps.length)
    (body : ∀ (cdv : Value) (A : Around) (outer : List Env) (s : Shared) (H : Hp) (E : XK) (ds : List PyData) (p : Addr), Room k (A.deeper (envOfC qual (defScope st) s.heap.objs.size f cdv)) → ok ds →
      SR (cxOf CX0 P w K mg base N qual (defScope st) f cdv A outer s H E).nox (.two p :: es0 N.tail ds) (defBody st) { nx := fun _ => False, rt := fun es d => es[0]? = some (.two p) ∧ R ds d }) : FnOk P w K mg base CX0 (k + 1) f fd ps (spS ok R) := by
  have hpl : ps.length ≤ N.length := by
    have := congrArg List.length Sc.pre
    rw [List.length_take] at this; omega
  refine F.ok Sc (fun vs H Q E h => ?_) (fun cdv A outer s H vs Q E hr h => ⟨wSs _ (defBody st), pss_w _, ?_⟩)
  · obtain ⟨C, p, x, y, us, ds, rfl, _, _, _, r, hok, _⟩ := h
    rw [List.length_cons, r.len]; exact len ds hok
  · obtain ⟨C, p, x0, y0, us, ds, rfl, hCp, dm, hp, r, hok, q⟩ := h
    have hl : ds.length + 1 ≤ N.length := by rw [len ds hok]; exact hpl
    let B : Hp := fun a => if a = p then none else H a
    have hB : ∀ a o, B a = some o → a ≠ p ∧ H a = some o := fun a o h => by
      show a ≠ p ∧ H a = some o
      by_cases c : a = p
      · have : (if a = p then none else H a) = some o := h
        rw [if_pos c] at this; cases this
      · have : (if a = p then none else H a) = some o := h
        rw [if_neg c] at this
        exact ⟨c, this⟩
    have hB2 : ∀ a o, a ≠ p → H a = some o → B a = some o := fun a o c h => by
      show (if a = p then none else H a) = some o
      rw [if_neg c]; exact h
    have hBp : B p = none := if_pos rfl
    have tl : (N.tail).length = N.length - 1 := List.length_tail
    have S : Sit B (fun a => C a ∧ a ≠ p) C H (L2.start N (.ref p :: us)) (.two p :: es0 N.tail ds) := by
      refine ⟨fun a o h => (hB a o h).2, fun _ h => h.1, fun a h => ?_, dm, fun a h => ?_, ?_, fun i e h => ?_, fun i j e f a h1 h2 m1 m2 _ _ => ?_⟩
      · obtain ⟨o, w⟩ := dm a h.1
        exact ⟨o, hB2 a o h.2 w⟩
      · by_cases c : a = p
        · subst c; exact .inr hBp
        · exact .inl ⟨h, c⟩
      · rw [start_len (by rw [List.length_cons, r.len]; exact hl)]
        unfold es0
        rw [List.length_cons, List.length_append, List.length_map, List.length_replicate, tl]; omega
      · cases i with
        | zero =>
          cases h
          exact ⟨⟨start_at rfl, hCp, hBp⟩, x0, y0, hp⟩
        | succ i =>
          have h : (es0 N.tail ds)[i]? = some e := h
          unfold es0 at h
          by_cases hi : i < ds.length
          · rw [List.getElem?_append_left (by rw [List.length_map]; exact hi), List.getElem?_map, List.getElem?_eq_getElem hi] at h
            cases h
            obtain ⟨v, hv, rv⟩ := r.get (List.getElem?_eq_getElem hi)
            exact ⟨v, start_at (show (V.ref p :: us)[i + 1]? = some v from hv), rv⟩
          · rw [List.getElem?_append_right (by rw [List.length_map]; omega), List.getElem?_replicate] at h
            split at h
            · cases h; trivial
            · cases h
      · have z : ∀ (i : Nat) (e : Sl), (Sl.two p :: es0 N.tail ds)[i]? = some e → e.mine = true → i = 0 := fun i e h m => by
          cases i with
          | zero => rfl
          | succ i =>
            have h : (es0 N.tail ds)[i]? = some e := h
            unfold es0 at h
            by_cases hi : i < ds.length
            · rw [List.getElem?_append_left (by rw [List.length_map]; exact hi), List.getElem?_map, List.getElem?_eq_getElem hi] at h
              cases h; cases m
            · rw [List.getElem?_append_right (by rw [List.length_map]; omega), List.getElem?_replicate] at h
              split at h
              · cases h; cases m
              · cases h
        rw [z i e h1 m1, z j f h2 m2]
    refine body cdv A outer s H E ds p hr hok B _ C (L2.start N (.ref p :: us)) H _ S ⟨fun _ _ _ _ _ n => n.elim, fun O H' σ es v d' S' r' n => ?_, fun _ _ _ _ _ n => n.elim, fun _ _ _ _ _ n => n.elim⟩
    obtain ⟨n1, n2⟩ := n
    obtain ⟨w, x', y', h'⟩ := S'.slot 0 _ n1
    refine q v H' d' (fun a o c h => S'.base a o (hB2 a o c h)) ⟨x', y', h'⟩ n2 (r'.mono (hid_anti fun a o _ c => ?_))
    by_cases z : a = p
    · rw [z]; exact w.own
    · exact S'.sub a ⟨c, z⟩
end
end PcW
set_option Elab.async false
set_option linter.all false
set_option maxRecDepth 100000
set_option maxHeartbeats 4000000
/-! The text by places, the data of rows. -/
namespace PcW
open PySem PySem.Spec PyProof.Rows L2 PcLin
def topS (i : Nat) : Stmt := PySem.Challenge.pw_polychains_k04_whole_spaces.main.body.getD i (.Pass ⟨0, 0, 0, 0⟩)
abbrev sIsInt : Stmt := topS 4
abbrev sInv : Stmt := topS 5
abbrev sIsRow : Stmt := topS 7
abbrev sAdd : Stmt := topS 8
abbrev sScaled : Stmt := topS 9
abbrev sDot : Stmt := topS 10
abbrev sCombine : Stmt := topS 11
abbrev sCleared : Stmt := topS 12
abbrev sReduced : Stmt := topS 13
abbrev sSpan : Stmt := topS 14
abbrev sKernel : Stmt := topS 15
abbrev sSumOf : Stmt := topS 16
abbrev sCommon : Stmt := topS 17
abbrev sAll : Stmt := topS 18
abbrev sLState : Stmt := topS 20
abbrev sLTake : Stmt := topS 21
abbrev sLSum : Stmt := topS 22
abbrev sLScaled : Stmt := topS 23
abbrev sLZero : Stmt := topS 24
abbrev sLElement : Stmt := topS 25
abbrev sLSpan : Stmt := topS 26
abbrev sLForm : Stmt := topS 27
abbrev sLShows : Stmt := topS 28
abbrev sLPrime : Stmt := topS 29
abbrev sLWidth : Stmt := topS 30
abbrev sLRows : Stmt := topS 31
abbrev sLDot : Stmt := topS 32
abbrev sLTotal : Stmt := topS 33
abbrev sLKinds : Stmt := topS 34
abbrev sLaw : Stmt := topS 35

/-! ### rows as data -/
abbrev dRow (r : IRow) : PyData := .tuple (r.map .int)
abbrev dRows (rs : List IRow) : PyData := .list (rs.map dRow)
abbrev dTab (rs : List IRow) : PyData := .tuple (rs.map dRow)
abbrev dInts (ns : List Int) : PyData := .list (ns.map .int)
def o1 (f : Int → Int) : PyData → PyData
  | .int x => .int (f x)
  | _ => .none
def o2 (f : Int → Int → Int) : PyData → PyData
  | .tuple [.int x, .int y] => .int (f x y)
  | _ => .none
def F1 (i : Nat) (d : PyData) (es : List Sl) : List Sl := es.set i (.val d)
def F2 (i j : Nat) (d : PyData) (es : List Sl) : List Sl := match d with
  | .tuple [a, b] => (es.set i (.val a)).set j (.val b)
  | _ => es
theorem ga1 {i : Nat} {d : PyData} : GA (gName i) d (F1 i d) [i] := ga_name
theorem ga2 {K : PySem.W.Frag} {i j : Nat} {d : PyData} (h : ∃ a b, d = .tuple [a, b]) : GA (gTup K 2 (gCons (gName i) (gCons (gName j) gNil))) d (F2 i j d) [i, j] := by
  obtain ⟨a, b, rfl⟩ := h
  exact ga_two
theorem map_o1 (f : Int → Int) : ∀ (l : List Int), (l.map PyData.int).map (o1 f) = (l.map f).map .int
  | [] => rfl
  | x :: l => by rw [List.map_cons, List.map_cons, List.map_cons, List.map_cons, map_o1 f l]; rfl
theorem map_o2 (f : Int → Int → Int) : ∀ (v w : List Int), (zd (v.map .int) (w.map .int)).map (o2 f) = (List.zipWith f v w).map .int
  | [], _ => rfl
  | _ :: _, [] => rfl
  | x :: v, y :: w => by
    show (o2 f (.tuple [.int x, .int y])) :: (zd (v.map .int) (w.map .int)).map (o2 f) = _
    rw [map_o2 f v w]; rfl
theorem mem_zd : ∀ {as bs : List PyData} {d : PyData}, d ∈ zd as bs → ∃ a b, a ∈ as ∧ b ∈ bs ∧ d = .tuple [a, b]
  | [], _, _, h => by cases h
  | _ :: _, [], _, h => by cases h
  | a :: as, b :: bs, d, h => by
    rcases List.mem_cons.mp (show d ∈ PyData.tuple [a, b] :: zd as bs from h) with rfl | h
    · exact ⟨a, b, List.mem_cons_self, List.mem_cons_self, rfl⟩
    · obtain ⟨a', b', h1, h2, e⟩ := mem_zd h
      exact ⟨a', b', List.mem_cons_of_mem _ h1, List.mem_cons_of_mem _ h2, e⟩
theorem mem_zdI {v w : List Int} {d : PyData} (h : d ∈ zd (v.map .int) (w.map .int)) : ∃ x y, x ∈ v ∧ y ∈ w ∧ d = .tuple [.int x, .int y] := by
  obtain ⟨a, b, h1, h2, rfl⟩ := mem_zd h
  obtain ⟨x, hx, rfl⟩ := List.mem_map.mp h1
  obtain ⟨y, hy, rfl⟩ := List.mem_map.mp h2
  exact ⟨x, y, hx, hy, rfl⟩
/-! ### targets in short -/
theorem pg_one {X : Cx} {i : Nat} {x : Str} {px : Pos} (hN : X.N.Nodup) (hi : X.N[i]? = some x) (hx : X.env.scope.names.lookup x = some .local) : PG X (.Name x px) (gName i) := pg_name hN hi (.inl hx) (.inr hx)
theorem pg_oneC {X : Cx} {i : Nat} {x : Str} {px : Pos} (hN : X.N.Nodup) (hi : X.N[i]? = some x) (hx : X.env.scope.names.lookup x = some .cell) (hf : X.fn x = true) : PG X (.Name x px) (gName i) := pg_name hN hi (.inr hx) (.inl hf)
theorem pg_pair {X : Cx} {i j k : Nat} {x y : Str} {px py pos : Pos} (hN : X.N.Nodup) (hi : X.N[i]? = some x) (hj : X.N[j]? = some y) (hx : X.env.scope.names.lookup x = some .local) (hy : X.env.scope.names.lookup y = some .local) (hc : X.calm = true) {K : PySem.W.Frag} (hK : X.K = K) :
    PG X (.Tuple [.Name x px, .Name y py] k pos) (gTup K 2 (gCons (gName i) (gCons (gName j) gNil))) := hK ▸ pg_tup hc (pgs_cons (pg_one hN hi hx) (pgs_cons (pg_one hN hj hy) pgs_nil))
/-! ### built-ins that no one hides; isinstance -/
structure Bi (mg : Str → Option Value) : Prop where
  zip : mg "zip" = none
  tuple : mg "tuple" = none
  list : mg "list" = none
  len : mg "len" = none
  range : mg "range" = none
  int : mg "int" = none
  bool : mg "bool" = none
  isinstance : mg "isinstance" = none
  sum : mg "sum" = none
  sorted : mg "sorted" = none
  abs : mg "abs" = none
theorem rp_ty' {K : PySem.W.Frag} {H : Hp} {v : V} {d : PyData} (r : Rp H v d) : TyX K H v (.type (tyName d)) := by
  cases r with
  | non => exact .base .non
  | bl b => exact .base (.bl b)
  | int i => exact .base (.int i)
  | str x => exact .base (.str x)
  | lst h _ => exact .base (.lst h)
  | tup h _ => exact .base (.tup h)
theorem pv_isi {X : Cx} {es : List Sl} {e : Expr} {d : PyData} {T : String} {Tn : Str} {b : Bool} {p pT pos : Pos} (hm : X.mg "isinstance" = none) (hT : X.mg Tn = none) (hv : bootBuiltins Tn = some (.type T)) (h : PV X es e d) (hk : kitB (tyName d) T = some b) (hg : Gl X "isinstance" := by rfl) (hgT : Gl X Tn := by rfl)
    (hn : Tn ≠ "__name__" := by decide) (hd : (Tn == ("__debug__" : Str)) = false := by decide) (he : starEach [e, .Name Tn pT] X.env = (false, eval e X.env) :: starEach [.Name Tn pT] X.env := by rfl) (he2 : starEach [.Name Tn pT] X.env = (false, eval (.Name Tn pT) X.env) :: starEach [] X.env := by rfl) (hpl : (backTo pos (starEach [.Name Tn pT] X.env)).any (·.1) = false := by rfl) :
    PV X es (.Call (.Name "isinstance" p) [e, .Name Tn pT] [] pos) (.bool b) := fun B C O σ H S Q q =>
  wE_of (pe_callB call_isi hg hm boot_isinstance (pa_cons (pe_w e) (pa_cons (pe_bltn hgT hT hv (v := .ty T) rfl hn hd) pa_nil he2) he) (he := he) (hpl := hpl))
    (h B C O σ H S _ fun v H1 e1 r => ⟨v, .ty T, _, _, b, rfl, .ty T, rp_ty' (r.mono hid_sub), kit_ty hk, q _ H1 e1 (.bl b)⟩)
theorem zd_len (as bs : List PyData) : (zd as bs).length = min as.length bs.length := List.length_zipWith
end PcW
set_option Elab.async false
set_option linter.all false
set_option maxRecDepth 100000
set_option maxHeartbeats 4000000
/-! The small defs of the program. -/
namespace PcW
open PySem PySem.Spec PyProof.Rows L2 PcLin
section
variable {P : Program} {w : World} {K : PySem.W.Frag} {mg : Str → Option Value} {base : Heap} {f : Addr} {fd : FuncData}
/-- items that are small -/
def Sm (v : List Int) : Prop := ∀ x ∈ v, -1000 < x ∧ x < 1000
theorem cmul_l {x y : Int} (h : -1000 < x ∧ x < 1000) : CMul x y := .inl ⟨by omega, by omega⟩
theorem cmul_r {x y : Int} (h : -1000 < y ∧ y < 1000) : CMul x y := .inr ⟨by omega, by omega⟩

/-! ### is_integer, inverse -/
def isInt : PyData → Bool
  | .int _ => true
  | _ => false
theorem scIsInt : FnScope ["value"] ["value"] (defScope sIsInt) := ⟨rfl, rfl, rfl, by decide +kernel, rfl, by decide +kernel, by decide +kernel⟩
def RIsInt : List PyData → PyData → Prop := fun ds d => ∃ v, (∀ k, v ≠ .dict k) ∧ ds = [v] ∧ d = .bool (isInt v)
theorem ok_isint (F : Fun K "is_integer" "is_integer" sIsInt f fd) (T : Bi mg) : FnOk P w K mg base CX0 1 f fd ["value"] (spF RIsInt) := by
  refine fn_data F scIsInt (fun ds d h => by obtain ⟨v, _, rfl, _⟩ := h; rfl) fun cdv A outer s H E ds d hr h => ?_
  obtain ⟨v, hv, rfl, rfl⟩ := h
  have go : ∀ b1 b2 : Bool, kitB (tyName v) "int" = some b1 → kitB (tyName v) "bool" = some b2 → (b1 && !b2) = isInt v →
      SR (cxOf CX0 P w K mg base ["value"] "is_integer" (defScope sIsInt) f cdv A outer s H E).nox (es0 ["value"] [v]) (defBody sIsInt) { nx := fun _ => PyData.bool (isInt v) = .none, rt := fun _ d' => d' = .bool (isInt v) } := fun b1 b2 h1 h2 e =>
    sr_cons (ss_ret (pv_and (pv_isi T.isinstance T.int boot_int (pv_var 0) h1) fun _ => pv_one (pv_not (pv_isi T.isinstance T.bool boot_bool (pv_var 0) h2))) (by rw [e]))
  cases v with
  | none => exact go false false (show kitB "NoneType" "int" = some _ by decide +kernel) (show kitB "NoneType" "bool" = some _ by decide +kernel) rfl
  | bool b => exact go true true (show kitB "bool" "int" = some _ by decide +kernel) (show kitB "bool" "bool" = some _ by decide +kernel) rfl
  | int i => exact go true false (show kitB "int" "int" = some _ by decide +kernel) (show kitB "int" "bool" = some _ by decide +kernel) rfl
  | str x => exact go false false (show kitB "str" "int" = some _ by decide +kernel) (show kitB "str" "bool" = some _ by decide +kernel) rfl
  | list xs => exact go false false (show kitB "list" "int" = some _ by decide +kernel) (show kitB "list" "bool" = some _ by decide +kernel) rfl
  | tuple xs => exact go false false (show kitB "tuple" "int" = some _ by decide +kernel) (show kitB "tuple" "bool" = some _ by decide +kernel) rfl
  | dict k => exact absurd rfl (hv k)
theorem scInv : FnScope ["a", "p", "k"] ["a", "p"] (defScope sInv) := ⟨rfl, rfl, rfl, by decide +kernel, rfl, by decide +kernel, by decide +kernel⟩
def RInv : List PyData → PyData → Prop := fun ds d => ∃ (p a : Int), 1 < p ∧ p < 1000 ∧ -1000 < a ∧ a < 1000 ∧ (∃ k : Nat, k < (p - 1).toNat ∧ a * (1 + (k : Int)) % p = 1) ∧ ds = [.int a, .int p] ∧ d = .int (invM p a)
theorem inv_at {p a : Int} {k : Nat} (hk : k < (p - 1).toNat) (h : a * (1 + (k : Int)) % p = 1) (no : ∀ j, j < k → ¬ a * (1 + (j : Int)) % p = 1) : invM p a = 1 + (k : Int) := by
  unfold invM
  rw [show p.toNat - 1 = (p - 1).toNat by omega, List.find?_range_eq_some.mpr ⟨by rw [beq_iff_eq]; exact h, List.mem_range.mpr hk, fun j hj => by
    rw [Bool.not_eq_true', beq_eq_false_iff_ne]; exact no j hj⟩]
theorem rng_at {lo : Int} {n i : Nat} {d : PyData} (h : (rng lo n)[i]? = some d) : i < n ∧ d = .int (lo + (i : Int)) := by
  have hl : (rng lo n).length = n := by unfold rng; rw [List.length_map, List.length_range]
  have hi : i < n := by rw [← hl]; exact (List.getElem?_eq_some_iff.mp h).1
  unfold rng at h
  rw [List.getElem?_map, List.getElem?_range hi] at h
  cases h
  exact ⟨hi, rfl⟩
theorem rng_mem {lo : Int} {n : Nat} {d : PyData} (h : d ∈ rng lo n) : ∃ i : Nat, i < n ∧ d = .int (lo + (i : Int)) := by
  obtain ⟨i, hi, rfl⟩ := List.mem_map.mp h
  exact ⟨i, List.mem_range.mp hi, rfl⟩
theorem rng_len {lo : Int} {n : Nat} : (rng lo n).length = n := by unfold rng; rw [List.length_map, List.length_range]
theorem ok_inv (F : Fun K "inverse" "inverse" sInv f fd) (T : Bi mg) : FnOk P w K mg base CX0 1 f fd ["a", "p"] (spF RInv) := by
  refine fn_data F scInv (fun ds d h => by obtain ⟨p, a, _, _, _, _, _, rfl, _⟩ := h; rfl) fun cdv A outer s H E ds d hr h => ?_
  obtain ⟨p, a, hp, hp2, ha, ha2, hex, rfl, rfl⟩ := h
  have hp0 : 0 < p := by omega
  refine sr_cons (ss_for (pi_range2 (by rfl) T.range (pa_w _)) (fsrc_rng2 (pvs_cons pv_int (pvs_cons (pv_var 1) pvs_nil)) (by omega) (by omega)) (pg_one (i := 2) scInv.nd rfl rfl) (F := F1 2) (is := [2]) (fun d _ => ga1)
    (fun i es => (∃ e, es = [.val (.int a), .val (.int p), e]) ∧ ∀ j : Nat, j < i → ¬ a * (1 + (j : Int)) % p = 1) ⟨⟨_, rfl⟩, fun j hj => absurd hj (Nat.not_lt_zero j)⟩ (fun i d es hd hI => ?_) (fun es hI => ?_))
  · obtain ⟨⟨e, rfl⟩, no⟩ := hI
    obtain ⟨hi, rfl⟩ := rng_at hd
    refine sr_cons (ss_if (pb_eqI (pv_mod hp0 (pv_mul (cmul_l ⟨ha, ha2⟩) (pv_var 0) (pv_var 2)) (pv_var 1)) pv_int) (fun hb => ?_) (fun hb => ?_))
    · rw [decide_eq_true_eq] at hb
      exact sr_cons (ss_ret (pv_var 2) (by rw [inv_at hi hb no]))
    · rw [decide_eq_false_iff_not] at hb
      refine sr_nil (sr_nil ⟨⟨_, rfl⟩, fun j hj => ?_⟩)
      rcases Nat.lt_succ_iff_lt_or_eq.mp hj with c | c
      · exact no j c
      · subst c; exact hb
  · obtain ⟨k, hk, h⟩ := hex
    rw [rng_len] at hI
    exact absurd h (hI.2 k hk)

/-! ### add, scaled, dot, combine, cleared -/
theorem scAdd : FnScope ["v", "w", "p", "x", "y"] ["v", "w", "p"] (defScope sAdd) := ⟨rfl, rfl, rfl, by decide +kernel, rfl, by decide +kernel, by decide +kernel⟩
def RAdd : List PyData → PyData → Prop := fun ds d => ∃ (p : Int) (v u : IRow), 0 < p ∧ v.length ≤ 1000 ∧ ds = [dRow v, dRow u, .int p] ∧ d = dRow (addM p v u)
theorem ok_add (F : Fun K "add" "add" sAdd f fd) (T : Bi mg) : FnOk P w K mg base CX0 1 f fd ["v", "w", "p"] (spF RAdd) := by
  refine fn_data F scAdd (fun ds d h => by obtain ⟨p, v, u, _, _, rfl, _⟩ := h; rfl) fun cdv A outer s H E ds d hr h => ?_
  obtain ⟨p, v, u, hp, hv, rfl, rfl⟩ := h
  refine sr_cons (ss_ret (pv_tupL T.tuple (PF.pl (pf_is (pf_lc (own := [("x", 3), ("y", 4)]) (out := o2 fun x y => (x + y) % p) (F := F2 3 4) (is := [3, 4]) scAdd.nd
    (RZ.pi_zipA (by rfl) T.zip (pa_w _)) (FSrc.p (fsrc_zipT (pvs_cons (pv_var 0) (pvs_cons (pv_var 1) pvs_nil)))) (blkOk_by (N := ["v", "w", "p", "x", "y"]) (sc := defScope sAdd) (by decide +kernel))
    (fun _ _ _ _ _ => pg_pair (i := 3) (j := 4) (K := K) scAdd.nd rfl rfl rfl rfl rfl rfl)
    (fun d hd => ?_) (by decide) (fun s H C cl fp d hd => ?_) ?_) (map_o2 _ v u)))) rfl)
  · obtain ⟨x, y, _, _, rfl⟩ := mem_zdI hd
    exact ga2 ⟨_, _, rfl⟩
  · obtain ⟨x, y, _, _, rfl⟩ := mem_zdI hd
    exact pv_mod hp (pv_add (pv_var 3) (pv_var 4)) (pv_var 2)
  · rw [zd_len, List.length_map]; omega
theorem scScaled : FnScope ["v", "a", "p", "x"] ["v", "a", "p"] (defScope sScaled) := ⟨rfl, rfl, rfl, by decide +kernel, rfl, by decide +kernel, by decide +kernel⟩
def RScaled : List PyData → PyData → Prop := fun ds d => ∃ (p a : Int) (v : IRow), 0 < p ∧ v.length ≤ 1000 ∧ Sm v ∧ ds = [dRow v, .int a, .int p] ∧ d = dRow (scaledM p v a)
theorem ok_scaled (F : Fun K "scaled" "scaled" sScaled f fd) (T : Bi mg) : FnOk P w K mg base CX0 1 f fd ["v", "a", "p"] (spF RScaled) := by
  refine fn_data F scScaled (fun ds d h => by obtain ⟨p, a, v, _, _, _, rfl, _⟩ := h; rfl) fun cdv A outer s H E ds d hr h => ?_
  obtain ⟨p, a, v, hp, hv, sm, rfl, rfl⟩ := h
  refine sr_cons (ss_ret (pv_tupL T.tuple (PF.pl (pf_is (pf_lc (own := [("x", 3)]) (out := o1 fun x => x * a % p) (F := F1 3) (is := [3]) scScaled.nd
    (pi_tup (pe_w _)) (FSrc.p (fsrc_tup (pv_var 0))) (blkOk_by (N := ["v", "a", "p", "x"]) (sc := defScope sScaled) (by decide +kernel))
    (fun _ _ _ _ _ => pg_one (i := 3) scScaled.nd rfl rfl)
    (fun d hd => ga1) (by decide) (fun s H C cl fp d hd => ?_) ?_) (map_o1 _ v)))) rfl)
  · obtain ⟨x, hx, rfl⟩ := List.mem_map.mp hd
    exact pv_mod hp (pv_mul (cmul_l (sm x hx)) (pv_var 3) (pv_var 1)) (pv_var 2)
  · rw [List.length_map]; omega
theorem scDot : FnScope ["v", "w", "p", "x", "y"] ["v", "w", "p"] (defScope sDot) := ⟨rfl, rfl, rfl, by decide +kernel, rfl, by decide +kernel, by decide +kernel⟩
def dotM (p : Int) (v u : IRow) : Int := (List.zipWith (fun x y => x * y) v u).sum % p
def RDot : List PyData → PyData → Prop := fun ds d => ∃ (p : Int) (v u : IRow), 0 < p ∧ v.length ≤ 1000 ∧ Sm v ∧ ds = [dRow v, dRow u, .int p] ∧ d = .int (dotM p v u)
theorem ok_dot (F : Fun K "dot" "dot" sDot f fd) (T : Bi mg) : FnOk P w K mg base CX0 1 f fd ["v", "w", "p"] (spF RDot) := by
  refine fn_data F scDot (fun ds d h => by obtain ⟨p, v, u, _, _, _, rfl, _⟩ := h; rfl) fun cdv A outer s H E ds d hr h => ?_
  obtain ⟨p, v, u, hp, hv, sm, rfl, rfl⟩ := h
  refine sr_cons (ss_ret (pv_mod hp (pv_sum T.sum (PF.pl (pf_is (pf_lc (own := [("x", 3), ("y", 4)]) (out := o2 fun x y => x * y) (F := F2 3 4) (is := [3, 4]) scDot.nd
    (RZ.pi_zipA (by rfl) T.zip (pa_w _)) (FSrc.p (fsrc_zipT (pvs_cons (pv_var 0) (pvs_cons (pv_var 1) pvs_nil)))) (blkOk_by (N := ["v", "w", "p", "x", "y"]) (sc := defScope sDot) (by decide +kernel))
    (fun _ _ _ _ _ => pg_pair (i := 3) (j := 4) (K := K) scDot.nd rfl rfl rfl rfl rfl rfl)
    (fun d hd => ?_) (by decide) (fun s H C cl fp d hd => ?_) ?_) (map_o2 _ v u)))) (pv_var 2)) rfl)
  · obtain ⟨x, y, _, _, rfl⟩ := mem_zdI hd
    exact ga2 ⟨_, _, rfl⟩
  · obtain ⟨x, y, hx, _, rfl⟩ := mem_zdI hd
    exact pv_mul (cmul_l (sm x hx)) (pv_var 3) (pv_var 4)
  · rw [zd_len, List.length_map]; omega
theorem scCleared : FnScope ["row", "head", "at", "p", "x", "y"] ["row", "head", "at", "p"] (defScope sCleared) := ⟨rfl, rfl, rfl, by decide +kernel, rfl, by decide +kernel, by decide +kernel⟩
def RCleared : List PyData → PyData → Prop := fun ds d => ∃ (p : Int) (i : Nat) (v u : IRow), 0 < p ∧ v.length ≤ 1000 ∧ Sm v ∧ i < v.length ∧ ds = [dRow v, dRow u, .int (i : Int), .int p] ∧ d = dRow (clearedM p v u i)
theorem getD_at {v : IRow} {i : Nat} (h : i < v.length) : v.getD i 0 = v[i] := by rw [List.getD_eq_getElem?_getD, List.getElem?_eq_getElem h]; rfl
theorem map_at {v : IRow} {i : Nat} (h : i < v.length) : (v.map PyData.int)[i]? = some (.int (v.getD i 0)) := by rw [List.getElem?_map, List.getElem?_eq_getElem h, getD_at h]; rfl
theorem ok_cleared (F : Fun K "cleared" "cleared" sCleared f fd) (T : Bi mg) : FnOk P w K mg base CX0 1 f fd ["row", "head", "at", "p"] (spF RCleared) := by
  refine fn_data F scCleared (fun ds d h => by obtain ⟨p, i, v, u, _, _, _, _, rfl, _⟩ := h; rfl) fun cdv A outer s H E ds d hr h => ?_
  obtain ⟨p, i, v, u, hp, hv, sm, hi, rfl, rfl⟩ := h
  refine sr_cons (ss_if (pb_eqI (pv_ixT (pv_var 0) (pv_var 2) (map_at hi)) pv_int) (fun hb => ?_) (fun hb => ?_))
  · rw [decide_eq_true_eq] at hb
    exact sr_cons (ss_ret (pv_var 0) (by unfold clearedM; rw [if_pos hb]))
  · rw [decide_eq_false_iff_not] at hb
    refine sr_nil (sr_cons (ss_ret (pv_tupL T.tuple (PF.pl (pf_is (pf_lc (own := [("x", 4), ("y", 5)]) (out := o2 fun x y => (x - v.getD i 0 * y) % p) (F := F2 4 5) (is := [4, 5]) scCleared.nd
      (RZ.pi_zipA (by rfl) T.zip (pa_w _)) (FSrc.p (fsrc_zipT (pvs_cons (pv_var 0) (pvs_cons (pv_var 1) pvs_nil)))) (blkOk_by (N := ["row", "head", "at", "p", "x", "y"]) (sc := defScope sCleared) (by decide +kernel))
      (fun _ _ _ _ _ => pg_pair (i := 4) (j := 5) (K := K) scCleared.nd rfl rfl rfl rfl rfl rfl)
      (fun d hd => ?_) (by decide) (fun s H C cl fp d hd => ?_) ?_) (map_o2 _ v u)))) (by unfold clearedM; rw [if_neg hb])))
    · obtain ⟨x, y, _, _, rfl⟩ := mem_zdI hd
      exact ga2 ⟨_, _, rfl⟩
    · obtain ⟨x, y, hx, _, rfl⟩ := mem_zdI hd
      exact pv_mod hp (pv_sub (pv_var 4) (pv_mul (cmul_l (by rw [getD_at hi]; exact sm _ (List.getElem_mem hi))) (pv_ixT (pv_var 0) (pv_var 2) (map_at hi)) (pv_var 5))) (pv_var 3)
    · rw [zd_len, List.length_map]; omega
end
end PcW
set_option Elab.async false
set_option linter.all false
set_option maxRecDepth 100000
set_option maxHeartbeats 4000000
/-! is_row, combine. -/
namespace PcW
open PySem PySem.Spec PyProof.Rows L2 PcLin
section
variable {P : Program} {w : World} {K : PySem.W.Frag} {mg : Str → Option Value} {base : Heap} {f : Addr} {fd : FuncData}
theorem Fc.mk' {k : Nat} {x : Str} {ps : List Str} {sp : Sp} {st : Stmt} (F : Fun K x x st f fd) (h : FnOk P w K mg base CX0 k f fd ps sp) (hm : mg x = some (.ref f)) (hb : Binds K fd ps []) : Fc P w K mg base k x ps sp := ⟨f, fd, h, hm, F.kp, hb⟩

/-! ### is_row -/
def inRng (p : Int) : PyData → Bool
  | .int x => decide (0 ≤ x) && decide (x < p)
  | _ => false
def isRowM (p : Int) (n : Int) : PyData → Bool
  | .tuple ds => decide ((ds.length : Int) = n) && ds.all (inRng p)
  | _ => false
theorem scIsRow : FnScope ["value", "p", "n", "item"] ["value", "p", "n"] (defScope sIsRow) := ⟨rfl, rfl, rfl, by decide +kernel, rfl, by decide +kernel, by decide +kernel⟩
def RIsRow : List PyData → PyData → Prop := fun ds d => ∃ (p n : Int) (v : PyData), (∀ k, v ≠ .dict k) ∧ (∀ l, v = .tuple l → ∀ k, .dict k ∉ l) ∧ ds = [v, .int p, .int n] ∧ d = .bool (isRowM p n v)
theorem ok_isrow (F : Fun K "is_row" "is_row" sIsRow f fd) (T : Bi mg) (G : Fc P w K mg base 1 "is_integer" ["value"] (spF RIsInt)) : FnOk P w K mg base CX0 2 f fd ["value", "p", "n"] (spF RIsRow) := by
  refine fn_data F scIsRow (fun ds d h => by obtain ⟨p, n, v, _, _, rfl, _⟩ := h; rfl) fun cdv A outer s H E ds d hr h => ?_
  obtain ⟨p, n, v, hv, hv2, rfl, rfl⟩ := h
  by_cases ht : ∃ l, v = .tuple l
  · obtain ⟨l, rfl⟩ := ht
    refine sr_cons (ss_if (pb_w (pbw_or (pb_not (pb_val (pv_isi (d := .tuple l) (b := true) T.isinstance T.tuple boot_tuple (pv_var 0) (show kitB "tuple" "tuple" = some true by decide +kernel)))) fun _ => pbw_or1 (pb_neI (pv_lenT T.len (pv_var 0)) (pv_var 2)))) (fun hb => ?_) (fun hb => ?_))
    · refine sr_cons (ss_ret pv_bl ?_)
      have : ¬ (l.length : Int) = n := by simpa using hb
      show PyData.bool false = .bool (decide ((l.length : Int) = n) && l.all (inRng p))
      rw [decide_eq_false this]; rfl
    · have hl : (l.length : Int) = n := by simpa using hb
      refine sr_nil (sr_cons (ss_for (pi_tup (pe_w _)) (fsrc_tup (pv_var 0)) (pg_one (i := 3) scIsRow.nd rfl rfl) (F := F1 3) (is := [3]) (fun d _ => ga1)
        (fun i es => (∃ e, es = [.val (.tuple l), .val (.int p), .val (.int n), e]) ∧ (l.take i).all (inRng p) = true) ⟨⟨_, rfl⟩, rfl⟩ (fun i d es hd hI => ?_) (fun es hI => ?_)))
      · obtain ⟨⟨e, rfl⟩, hal⟩ := hI
        have hmem : d ∈ l := List.mem_of_getElem? hd
        have hdk : ∀ k, d ≠ .dict k := fun k q => hv2 l rfl k (q ▸ hmem)
        have no : inRng p d = false → PyData.bool false = .bool (isRowM p n (.tuple l)) := fun z => by
          show _ = PyData.bool (decide ((l.length : Int) = n) && l.all (inRng p))
          rw [show l.all (inRng p) = false from by
            rw [Bool.eq_false_iff]
            intro q
            rw [List.all_eq_true] at q
            rw [q d hmem] at z
            cases z]
          simp
        have yes : inRng p d = true → (l.take (i + 1)).all (inRng p) = true := fun z => by
          rw [List.take_add_one, hd, List.all_append, hal]
          show (true && [d].all (inRng p)) = true
          rw [List.all_cons, z]; rfl
        cases hi : isInt d with
        | false =>
          refine sr_cons (ss_if (pb_w (pbw_or (pb_not (pb_val (pv_call G (hr.mono (by decide)) (pvs_cons (pv_var 3) pvs_nil) ⟨d, hdk, rfl, rfl⟩))) (y := false) fun q => absurd (show (!isInt d) = true by rw [hi]; rfl) (by rw [q]; decide))) (fun _ => ?_) (fun hb => ?_))
          · refine sr_cons (ss_ret pv_bl (no ?_))
            cases d <;> first | rfl | cases hi
          · rw [hi] at hb; cases hb
        | true =>
          obtain ⟨x, rfl⟩ : ∃ x, d = .int x := by cases d <;> first | exact ⟨_, rfl⟩ | cases hi
          refine sr_cons (ss_if (pb_w (pbw_or (pb_not (pb_val (pv_call G (hr.mono (by decide)) (pvs_cons (pv_var 3) pvs_nil) ⟨.int x, hdk, rfl, rfl⟩))) fun _ => pbw_or (pb_ltI (pv_var 3) pv_int) fun _ => pbw_or1 (pb_geI (pv_var 3) (pv_var 1)))) (fun hb => ?_) (fun hb => ?_))
          · refine sr_cons (ss_ret pv_bl (no ?_))
            show (decide (0 ≤ x) && decide (x < p)) = false
            rcases (show x < 0 ∨ p ≤ x by simpa [isInt] using hb) with c | c
            · rw [decide_eq_false (show ¬ 0 ≤ x by omega)]; rfl
            · rw [decide_eq_false (show ¬ x < p by omega), Bool.and_false]
          · have hx : 0 ≤ x ∧ x < p := by simpa [isInt] using hb
            refine sr_nil (sr_nil ⟨⟨_, rfl⟩, yes ?_⟩)
            show (decide (0 ≤ x) && decide (x < p)) = true
            rw [decide_eq_true hx.1, decide_eq_true hx.2]; rfl
      · obtain ⟨⟨e, rfl⟩, hal⟩ := hI
        rw [List.take_length] at hal
        refine sr_cons (ss_ret pv_bl ?_)
        show PyData.bool true = .bool (decide ((l.length : Int) = n) && l.all (inRng p))
        rw [decide_eq_true hl, hal]; rfl
  · have hf : isRowM p n v = false := by
      cases v with
      | tuple l => exact absurd ⟨l, rfl⟩ ht
      | _ => rfl
    rw [hf]
    have go : kitB (tyName v) "tuple" = some false → SR (cxOf CX0 P w K mg base ["value", "p", "n", "item"] "is_row" (defScope sIsRow) f cdv A outer s H E).nox (es0 ["value", "p", "n", "item"] [v, .int p, .int n]) (defBody sIsRow) { nx := fun _ => PyData.bool false = .none, rt := fun _ d' => d' = .bool false } := fun hk =>
      sr_cons (ss_if (pb_w (pbw_or (y := false) (pb_not (pb_val (pv_isi T.isinstance T.tuple boot_tuple (pv_var 0) hk))) fun q => by cases q)) (fun _ => sr_cons (ss_ret pv_bl rfl)) (fun hb => by cases hb))
    cases v with
    | none => exact go (show kitB "NoneType" "tuple" = some _ by decide +kernel)
    | bool b => exact go (show kitB "bool" "tuple" = some _ by decide +kernel)
    | int i => exact go (show kitB "int" "tuple" = some _ by decide +kernel)
    | str x => exact go (show kitB "str" "tuple" = some _ by decide +kernel)
    | list xs => exact go (show kitB "list" "tuple" = some _ by decide +kernel)
    | tuple xs => exact absurd ⟨xs, rfl⟩ ht
    | dict k => exact absurd rfl (hv k)

/-! ### combine -/
def lstep (p a : Int) (t r : IRow) : IRow := List.zipWith (fun x y => (x + a * y) % p) t r
def cstep (p : Int) (t : IRow) (ra : IRow × Int) : IRow := if ra.2 ≠ 0 then lstep p ra.2 t ra.1 else t
def combineM (p : Int) (rows : List IRow) (ws : List Int) (n : Nat) : IRow := (rows.zip ws).foldl (cstep p) (zeroM n)
theorem scCombine : FnScope ["rows", "weights", "width", "p", "total", "row", "a", "x", "y"] ["rows", "weights", "width", "p"] (defScope sCombine) := ⟨rfl, rfl, rfl, by decide +kernel, rfl, by decide +kernel, by decide +kernel⟩
def RCombine : List PyData → PyData → Prop := fun ds d => ∃ (p : Int) (n : Nat) (rows : List IRow) (ws : List Int), 0 < p ∧ n ≤ 1000 ∧ (∀ r ∈ rows, Sm r) ∧ (ds = [dRows rows, dInts ws, .int (n : Int), .int p] ∨ ds = [dTab rows, dRow ws, .int (n : Int), .int p]) ∧ d = dRow (combineM p rows ws n)
theorem zd_map (rows : List IRow) (ws : List Int) : zd (rows.map dRow) (ws.map .int) = (rows.zip ws).map fun ra => .tuple [dRow ra.1, .int ra.2] := by
  induction rows generalizing ws with
  | nil => rfl
  | cons r rows ih =>
    cases ws with
    | nil => rfl
    | cons a ws =>
      show PyData.tuple [dRow r, .int a] :: zd (rows.map dRow) (ws.map .int) = _
      rw [ih]; rfl
theorem foldl_take {α β : Type} (g : β → α → β) (b : β) (l : List α) {i : Nat} {x : α} (h : l[i]? = some x) : (l.take (i + 1)).foldl g b = g ((l.take i).foldl g b) x := by
  rw [List.take_add_one, h, List.foldl_append]; rfl
theorem cstep_len {p : Int} {t : IRow} {ra : IRow × Int} : (cstep p t ra).length ≤ t.length := by
  unfold cstep lstep
  split
  · rw [List.length_zipWith]; omega
  · exact Nat.le_refl _
theorem cfold_len {p : Int} : ∀ (l : List (IRow × Int)) (t : IRow), (l.foldl (cstep p) t).length ≤ t.length
  | [], _ => Nat.le_refl _
  | _ :: l, t => Nat.le_trans (cfold_len l _) cstep_len
theorem flat_rep (n : Nat) : (List.replicate n [PyData.int 0]).flatten = (zeroM n).map .int := by
  unfold zeroM
  induction n with
  | zero => rfl
  | succ n ih => rw [List.replicate_succ, List.flatten_cons, ih]; rfl
theorem ok_combine (F : Fun K "combine" "combine" sCombine f fd) (T : Bi mg) : FnOk P w K mg base CX0 1 f fd ["rows", "weights", "width", "p"] (spF RCombine) := by
  refine fn_data F scCombine (fun ds d h => by obtain ⟨p, n, rows, ws, _, _, _, h, _⟩ := h; rcases h with rfl | rfl <;> rfl) fun cdv A outer s H E ds d hr h => ?_
  obtain ⟨p, n, rows, ws, hp, hn, hs, hds, rfl⟩ := h
  obtain ⟨d0, d1, rfl, hsrc⟩ : ∃ d0 d1, ds = [d0, d1, .int (n : Int), .int p] ∧ ((d0 = dRows rows ∧ d1 = dInts ws) ∨ (d0 = dTab rows ∧ d1 = dRow ws)) := by
    rcases hds with rfl | rfl
    · exact ⟨_, _, rfl, .inl ⟨rfl, rfl⟩⟩
    · exact ⟨_, _, rfl, .inr ⟨rfl, rfl⟩⟩
  refine sr_cons (ss_set 4 scCombine.nd (PF.pv (pf_is (pf_rep (PF.pl (pf_lst (pvs_cons pv_int pvs_nil))) (pv_var 2) (by omega) (by decide)) (by rw [Int.toNat_natCast, flat_rep]))) ?_)
  refine sr_cons (ss_for (items := zd (rows.map dRow) (ws.map .int)) (RZ.pi_zipA (by rfl) T.zip (pa_w _)) ?src (pg_tup rfl (pgs_cons (pg_one (i := 5) scCombine.nd rfl rfl) (pgs_cons (pg_oneC (i := 6) scCombine.nd rfl rfl rfl) pgs_nil))) (F := F2 5 6) (is := [5, 6]) (fun d hd => by
      obtain ⟨a, b, _, _, rfl⟩ := mem_zd hd
      exact ga2 ⟨_, _, rfl⟩)
    (fun i es => ∃ e5 e6, es = [.val d0, .val d1, .val (.int (n : Int)), .val (.int p), .val (dInts (((rows.zip ws).take i).foldl (cstep p) (zeroM n))), e5, e6, .no, .no]) ⟨_, _, rfl⟩ (fun i d es hd hI => ?_) (fun es hI => ?_))
  case src =>
    rcases hsrc with ⟨rfl, rfl⟩ | ⟨rfl, rfl⟩
    · exact fsrc_zipL (pvs_cons (pv_var 0) (pvs_cons (pv_var 1) pvs_nil))
    · exact fsrc_zipT (pvs_cons (pv_var 0) (pvs_cons (pv_var 1) pvs_nil))
  · obtain ⟨e5, e6, rfl⟩ := hI
    rw [zd_map, List.getElem?_map] at hd
    cases hra : (rows.zip ws)[i]? with
    | none => rw [hra] at hd; cases hd
    | some ra =>
      rw [hra] at hd
      cases hd
      have hsm : Sm ra.1 := hs _ (List.of_mem_zip (List.mem_of_getElem? hra)).1
      rw [foldl_take _ _ _ hra]
      generalize ht : ((rows.zip ws).take i).foldl (cstep p) (zeroM n) = t
      have htl : t.length ≤ 1000 := by rw [← ht]; exact Nat.le_trans (cfold_len _ _) (by unfold zeroM; rw [List.length_replicate]; exact hn)
      refine sr_cons (ss_if (pb_neI (pv_var 6) pv_int) (fun hb => ?_) (fun hb => ?_))
      · have h0 : ra.2 ≠ 0 := by simpa using hb
        refine sr_cons (ss_setLc 4 (own := [("x", 7), ("y", 8)]) (out := o2 fun x y => (x + ra.2 * y) % p) (F := F2 7 8) (is := [7, 8]) scCombine.nd
          (pi_zipM (by rfl) T.zip (pa_w _)) (FSrc.p (fsrc_zipM (pvs_cons (pv_var 4) (pvs_cons (pv_var 5) pvs_nil)))) (blkOk_by (N := ["rows", "weights", "width", "p", "total", "row", "a", "x", "y"]) (sc := defScope sCombine) (by decide +kernel))
          (fun _ _ _ _ _ => pg_pair (i := 7) (j := 8) (K := K) scCombine.nd rfl rfl rfl rfl rfl rfl) (fun d hd => ?_) (by decide) (fun s H C cl fp d hd => ?_) ?_ ?_ (sw_true rfl rfl rfl (by decide +kernel)))
        · obtain ⟨x, y, _, _, rfl⟩ := mem_zdI hd
          exact ga2 ⟨_, _, rfl⟩
        · obtain ⟨x, y, _, hy, rfl⟩ := mem_zdI hd
          exact pv_mod hp (pv_add (pv_var 7) (pv_mul (cmul_r (hsm y hy)) (pv_var 6) (pv_var 8))) (pv_var 3)
        · rw [zd_len, List.length_map]; omega
        · rw [map_o2]
          have e : cstep p t ra = lstep p ra.2 t ra.1 := by
            unfold cstep
            rw [if_pos h0]
          refine sr_freeze 4 rfl (sr_nil (sr_nil ⟨.val (dRow ra.1), .val (.int ra.2), ?_⟩))
          rw [e]
          rfl
      · have h0 : ra.2 = 0 := by simpa using hb
        have e : cstep p t ra = t := by
          unfold cstep
          rw [if_neg (by rw [h0]; decide)]
        refine sr_nil (sr_nil ⟨.val (dRow ra.1), .val (.int ra.2), ?_⟩)
        rw [e]
        rfl
  · obtain ⟨e5, e6, rfl⟩ := hI
    rw [show (rows.zip ws).take (zd (rows.map dRow) (ws.map PyData.int)).length = rows.zip ws from by rw [zd_map, List.length_map, List.take_length]]
    exact sr_cons (ss_ret (pv_tupL T.tuple (PV.pl (pv_var 4))) rfl)
end
end PcW
set_option Elab.async false
set_option linter.all false
set_option maxRecDepth 100000
set_option maxHeartbeats 4000000
/-! reduced. -/
namespace PcW
open PySem PySem.Spec PyProof.Rows L2 PcLin
/-- a modulus with inverses -/
structure Pr (p : Nat) : Prop where
  lo : 1 < p
  hi : p ≤ 100
  inv : ∀ a : Int, 0 < a → a < p → ∃ k : Nat, k < ((p : Int) - 1).toNat ∧ a * (1 + (k : Int)) % (p : Int) = 1
section
variable {p n : Nat}
theorem Pr.pos (h : Pr p) : 0 < (p : Int) := by have := h.lo; omega
theorem w_sm (h : Pr p) {r : IRow} (w : W p n r) : Sm r := fun x hx => by
  have := w.rng x hx
  have := h.hi
  omega
theorem mod_in (h : Pr p) (x : Int) : 0 ≤ x % (p : Int) ∧ x % (p : Int) < p := ⟨Int.emod_nonneg x (by have := h.pos; omega), Int.emod_lt_of_pos x h.pos⟩
theorem w_scaled (h : Pr p) {r : IRow} (w : W p n r) (a : Int) : W p n (scaledM p r a) := ⟨by unfold scaledM; rw [List.length_map]; exact w.len, fun x hx => by
  obtain ⟨y, _, rfl⟩ := List.mem_map.mp hx
  exact mod_in h _⟩
theorem mem_zipWith {α β γ : Type} {f : α → β → γ} : ∀ {l : List α} {m : List β} {x : γ}, x ∈ List.zipWith f l m → ∃ a b, a ∈ l ∧ b ∈ m ∧ x = f a b
  | [], _, _, h => by rw [List.zipWith_nil_left] at h; cases h
  | _ :: _, [], _, h => by rw [List.zipWith_nil_right] at h; cases h
  | a :: l, b :: m, x, h => by
    rw [List.zipWith_cons_cons] at h
    rcases List.mem_cons.mp h with rfl | h
    · exact ⟨a, b, List.mem_cons_self, List.mem_cons_self, rfl⟩
    · obtain ⟨a', b', h1, h2, e⟩ := mem_zipWith h
      exact ⟨a', b', List.mem_cons_of_mem _ h1, List.mem_cons_of_mem _ h2, e⟩
theorem w_zip (h : Pr p) {r s : IRow} (w : W p n r) (v : W p n s) (f : Int → Int → Int) : W p n (List.zipWith (fun x y => f x y % (p : Int)) r s) := ⟨by rw [List.length_zipWith, w.len, v.len, Nat.min_self], fun x hx => by
  obtain ⟨a, b, _, _, rfl⟩ := mem_zipWith hx
  exact mod_in h _⟩
theorem w_add (h : Pr p) {r s : IRow} (w : W p n r) (v : W p n s) : W p n (addM p r s) := w_zip h w v fun x y => x + y
theorem w_cleared (h : Pr p) {r s : IRow} (w : W p n r) (v : W p n s) (i : Nat) : W p n (clearedM p r s i) := by
  unfold clearedM
  split
  · exact w
  · exact w_zip h w v fun x y => x - r.getD i 0 * y
theorem w_zero (h : Pr p) : W p n (zeroM n) := ⟨by unfold zeroM; rw [List.length_replicate], fun x hx => by
  unfold zeroM at hx
  rw [(List.mem_replicate.mp hx).2]
  have := h.pos
  omega⟩
structure RW (p n m i : Nat) (s : Rst) : Prop where
  l : ∀ r ∈ s.left, W p n r
  f : ∀ r ∈ s.found, W p n r
  ll : s.left.length ≤ m
  fl : s.found.length ≤ i
  pl : s.piv.length = s.found.length
  pv : ∀ q ∈ s.piv, q < n
theorem RW.up {m i : Nat} {s : Rst} (h : RW p n m i s) : RW p n m (i + 1) s := ⟨h.l, h.f, h.ll, by have := h.fl; omega, h.pl, h.pv⟩
theorem get_mem {l : List IRow} {k : Nat} (h : k < l.length) : l.getD k [] ∈ l := by
  rw [List.getD_eq_getElem?_getD, List.getElem?_eq_getElem h]
  exact List.getElem_mem h
theorem RW.hit (hp : Pr p) {m i k : Nat} {s : Rst} (h : RW p n m i s) (hk : k < s.left.length) (hi : i < n) : RW p n m (i + 1) (redHit p i k s) := by
  have hw := w_scaled hp (h.l _ (get_mem hk)) (invM p ((s.left.getD k []).getD i 0))
  refine ⟨fun r hr => ?_, fun r hr => ?_, ?_, ?_, ?_, fun q hq => ?_⟩
  · obtain ⟨x, hx, rfl⟩ := List.mem_map.mp hr
    exact w_cleared hp (h.l _ (List.mem_of_mem_eraseIdx hx)) hw i
  · rcases List.mem_append.mp hr with hr | hr
    · obtain ⟨x, hx, rfl⟩ := List.mem_map.mp hr
      exact w_cleared hp (h.f _ hx) hw i
    · rw [List.mem_singleton] at hr
      rw [hr]; exact hw
  · show ((s.left.eraseIdx k).map _).length ≤ m
    rw [List.length_map]
    exact Nat.le_trans (List.length_eraseIdx_le _ _) h.ll
  · show ((s.found.map _) ++ [_]).length ≤ i + 1
    rw [List.length_append, List.length_map]
    have := h.fl
    simpa using this
  · show (s.piv ++ [i]).length = ((s.found.map _) ++ [_]).length
    rw [List.length_append, List.length_append, List.length_map, h.pl]; rfl
  · rcases List.mem_append.mp hq with hq | hq
    · exact h.pv q hq
    · rw [List.mem_singleton] at hq
      omega
theorem heads_at {l : List IRow} {i k : Nat} {ks : List Nat} (h : heads l i = k :: ks) : k < l.length ∧ (l.getD k []).getD i 0 ≠ 0 := by
  have : k ∈ heads l i := by rw [h]; exact List.mem_cons_self
  unfold heads at this
  obtain ⟨h1, h2⟩ := List.mem_filter.mp this
  exact ⟨List.mem_range.mp h1, by simpa using h2⟩
theorem RW.step (hp : Pr p) {m i : Nat} {s : Rst} (h : RW p n m i s) (hi : i < n) : RW p n m (i + 1) (redStep p s i) := by
  unfold redStep
  cases hh : heads s.left i with
  | nil => exact h.up
  | cons k ks => exact h.hit hp (heads_at hh).1 hi
theorem RW.all (hp : Pr p) {rows : List IRow} (h : ∀ r ∈ rows, W p n r) : ∀ i, i ≤ n → RW p n rows.length i ((List.range i).foldl (redStep p) ⟨rows, [], []⟩)
  | 0, _ => ⟨h, fun r hr => (by cases hr), Nat.le_refl _, Nat.le_refl _, rfl, fun q hq => (by cases hq)⟩
  | i + 1, hi => by
    rw [List.range_succ, List.foldl_append]
    exact (RW.all hp h i (by omega)).step hp (by omega)
theorem tab_RW (hp : Pr p) {rows : List IRow} (h : ∀ r ∈ rows, W p n r) : RW p n rows.length n (redN p rows n) := RW.all hp h n (Nat.le_refl n)
theorem w_tab (hp : Pr p) {rows : List IRow} (h : ∀ r ∈ rows, W p n r) : ∀ r ∈ tabM p rows n, W p n r := (tab_RW hp h).f
end
/-! ### rows out of data -/
def intOf : PyData → Int
  | .int x => x
  | _ => 0
def rowOf : PyData → IRow
  | .tuple l => l.map intOf
  | _ => []
theorem rowOf_d (r : IRow) : rowOf (dRow r) = r := by
  show (r.map PyData.int).map intOf = r
  rw [List.map_map]
  show r.map (fun x => x) = r
  exact List.map_id' r
def oR (f : IRow → IRow) (d : PyData) : PyData := dRow (f (rowOf d))
theorem oR_d (f : IRow → IRow) (r : IRow) : oR f (dRow r) = dRow (f r) := by unfold oR; rw [rowOf_d]
theorem map_oR (f : IRow → IRow) (rs : List IRow) : (rs.map dRow).map (oR f) = (rs.map f).map dRow := by
  rw [List.map_map, List.map_map]
  exact List.map_congr_left fun r _ => oR_d f r
def dPiv (q : List Nat) : List PyData := q.map fun (i : Nat) => .int (i : Int)
def hitB (left : List IRow) (i : Nat) : PyData → Bool
  | .int k => (left.getD k.toNat []).getD i 0 != 0
  | _ => false
theorem filter_rng (L : Nat) (b : PyData → Bool) (c : Nat → Bool) (h : ∀ k : Nat, b (.int (k : Int)) = c k) : ((rng 0 L).filter b).map id = dPiv ((List.range L).filter c) := by
  unfold rng dPiv
  rw [List.map_id, List.filter_map]
  have e : (b ∘ fun (i : Nat) => PyData.int (0 + (i : Int))) = c := by
    funext k
    show b (.int (0 + (k : Int))) = c k
    rw [Int.zero_add]; exact h k
  rw [e]
  exact List.map_congr_left fun k _ => by rw [Int.zero_add]
theorem rows_at {l : List IRow} {k : Nat} (h : k < l.length) : (l.map dRow)[k]? = some (dRow (l.getD k [])) := by
  rw [List.getElem?_map, List.getElem?_eq_getElem h, List.getD_eq_getElem?_getD, List.getElem?_eq_getElem h]; rfl
section
variable {P : Program} {w : World} {K : PySem.W.Frag} {mg : Str → Option Value} {base : Heap} {f : Addr} {fd : FuncData}
theorem scReduced : FnScope ["rows", "width", "p", "left", "found", "pivots", "at", "heads", "head", "row", "k"] ["rows", "width", "p"] (defScope sReduced) := ⟨rfl, rfl, rfl, by decide +kernel, rfl, by decide +kernel, by decide +kernel⟩
def RReduced : List PyData → PyData → Prop := fun ds d => ∃ (p n : Nat) (rows : List IRow), Pr p ∧ n ≤ 1000 ∧ rows.length ≤ 1000 ∧ (∀ r ∈ rows, W p n r) ∧ (ds = [dRows rows, .int (n : Int), .int (p : Int)] ∨ ds = [dTab rows, .int (n : Int), .int (p : Int)]) ∧ d = .tuple [dTab (tabM p rows n), .tuple (dPiv (pivM p rows n))]
theorem ok_reduced (F : Fun K "reduced" "reduced" sReduced f fd) (T : Bi mg) (Gi : Fc P w K mg base 1 "inverse" ["a", "p"] (spF RInv)) (Gs : Fc P w K mg base 1 "scaled" ["v", "a", "p"] (spF RScaled)) (Gc : Fc P w K mg base 1 "cleared" ["row", "head", "at", "p"] (spF RCleared)) :
    FnOk P w K mg base CX0 2 f fd ["rows", "width", "p"] (spF RReduced) := by
  refine fn_data F scReduced (fun ds d h => by obtain ⟨p, n, rows, _, _, _, _, h, _⟩ := h; rcases h with rfl | rfl <;> rfl) fun cdv A outer s H E ds d hr h => ?_
  obtain ⟨p, n, rows, hp, hn, hm, hw, hds, rfl⟩ := h
  obtain ⟨d0, rfl, hd0⟩ : ∃ d0, ds = [d0, .int (n : Int), .int (p : Int)] ∧ (d0 = dRows rows ∨ d0 = dTab rows) := by
    rcases hds with rfl | rfl
    · exact ⟨_, rfl, .inl rfl⟩
    · exact ⟨_, rfl, .inr rfl⟩
  refine sr_cons (ss_setOwn (ds := rows.map dRow) 3 scReduced.nd ?left ?_)
  case left =>
    rcases hd0 with rfl | rfl
    · exact pf_is (pf_lc (own := [("row", 9)]) (out := id) (F := F1 9) (is := [9]) scReduced.nd (pi_list (pe_w _)) (FSrc.p (fsrc_list (pv_var 0))) (blkOk_by (N := ["rows", "width", "p", "left", "found", "pivots", "at", "heads", "head", "row", "k"]) (sc := defScope sReduced) (by decide +kernel))
        (fun _ _ _ _ _ => pg_one (i := 9) scReduced.nd rfl rfl) (fun d hd => ga1) (by decide) (fun s H C cl fp d hd => by
          obtain ⟨r, _, rfl⟩ := List.mem_map.mp hd
          exact pv_tupT T.tuple (pv_var 9)) (by rw [List.length_map]; omega)) (List.map_id _)
    · exact pf_is (pf_lc (own := [("row", 9)]) (out := id) (F := F1 9) (is := [9]) scReduced.nd (pi_tup (pe_w _)) (FSrc.p (fsrc_tup (pv_var 0))) (blkOk_by (N := ["rows", "width", "p", "left", "found", "pivots", "at", "heads", "head", "row", "k"]) (sc := defScope sReduced) (by decide +kernel))
        (fun _ _ _ _ _ => pg_one (i := 9) scReduced.nd rfl rfl) (fun d hd => ga1) (by decide) (fun s H C cl fp d hd => by
          obtain ⟨r, _, rfl⟩ := List.mem_map.mp hd
          exact pv_tupT T.tuple (pv_var 9)) (by rw [List.length_map]; omega)) (List.map_id _)
  refine sr_cons (ss_set 4 scReduced.nd (PF.pv (pf_lst pvs_nil)) ?_)
  refine sr_cons (ss_setOwn 5 scReduced.nd (pf_lst pvs_nil) ?_)
  refine sr_cons (ss_for (items := rng 0 (n : Int).toNat) (pi_range1 (by rfl) T.range (pa_w _)) (fsrc_rng1 (pv_var 1) (by omega) (by omega)) (pg_oneC (i := 6) scReduced.nd rfl rfl rfl) (F := F1 6) (is := [6]) (fun d _ => ga1)
    (fun i es => ∃ s e6 e7 e8, es = [.val d0, .val (.int (n : Int)), .val (.int (p : Int)), .own (s.left.map dRow), .val (dRows s.found), .own (dPiv s.piv), e6, e7, e8, .no, .no] ∧ s = (List.range i).foldl (redStep p) ⟨rows, [], []⟩) ⟨⟨rows, [], []⟩, .no, .no, .no, rfl, rfl⟩ (fun i d es hd hI => ?_) (fun es hI => ?_))
  · obtain ⟨s0, e6, e7, e8, rfl, hs0⟩ := hI
    obtain ⟨hi, rfl⟩ := rng_at hd
    rw [Int.zero_add]
    rw [Int.toNat_natCast] at hi
    have hRW : RW p n rows.length i s0 := by rw [hs0]; exact RW.all hp hw i (by omega)
    have hnx : redStep p s0 i = (List.range (i + 1)).foldl (redStep p) ⟨rows, [], []⟩ := by rw [hs0, List.range_succ, List.foldl_append]; rfl
    have lw : ∀ {k : Nat}, k < s0.left.length → W p n (s0.left.getD k []) := fun {k} h => hRW.l _ (get_mem h)
    refine sr_cons (ss_setLcIf 7 (own := [("k", 10)]) (out := id) (b := hitB s0.left i) (F := F1 10) (is := [10]) scReduced.nd (pi_range1 (by rfl) T.range (pa_w _))
      (FSrc.p (fsrc_rng1 (pv_len T.len (pl_own 3)) (by omega) (by rw [List.length_map]; have := hRW.ll; omega))) (blkOk_by (N := ["rows", "width", "p", "left", "found", "pivots", "at", "heads", "head", "row", "k"]) (sc := defScope sReduced) (by decide +kernel))
      (fun _ _ _ _ _ => pg_one (i := 10) scReduced.nd rfl rfl) (fun d hd => ga1) (by decide) (fun s H C cl fp d hd => ?_) (fun s H C cl fp d hd _ => ?_) ?_ ?_ (sw_true rfl rfl rfl (by decide +kernel)))
    · obtain ⟨k, hk, rfl⟩ := rng_mem hd
      rw [Int.zero_add]
      have hk : k < s0.left.length := by
        rw [Int.toNat_natCast, List.length_map] at hk; exact hk
      exact pb_neI (pv_ixT (pv_ixL (pl_own 3) (pv_var 10) (rows_at hk)) (pv_var 6) (map_at (by rw [(lw hk).len]; exact hi))) pv_int
    · exact pv_var 10
    · rw [rng_len, List.length_map]; have := hRW.ll; omega
    · rw [Int.toNat_natCast, List.length_map, filter_rng s0.left.length _ (fun k => (s0.left.getD k []).getD i 0 != 0) (fun k => rfl)]
      show SR _ [.val d0, .val (.int (n : Int)), .val (.int (p : Int)), .own (s0.left.map dRow), .val (dRows s0.found), .own (dPiv s0.piv), .val (.int (i : Int)), .own (dPiv (heads s0.left i)), e8, .no, .no] _ _
      refine sr_cons (ss_if (pb_gtI (pv_len T.len (pl_own 7)) pv_int) (fun hb => ?_) (fun hb => ?_))
      · cases hh : heads s0.left i with
        | nil => rw [hh] at hb; simp [dPiv] at hb
        | cons k ks =>
          obtain ⟨hk, hne⟩ := heads_at hh
          have hwk := lw hk
          have hil : i < (s0.left.getD k []).length := by rw [hwk.len]; exact hi
          have hrg : 0 ≤ (s0.left.getD k []).getD i 0 ∧ (s0.left.getD k []).getD i 0 < p := by
            rw [getD_at hil]; exact hwk.rng _ (List.getElem_mem hil)
          have hst : redStep p s0 i = redHit p i k s0 := by unfold redStep; rw [hh]
          have hp100 := hp.hi
          have hp1 := hp.lo
          have hp1' : 1 < (p : Int) := by omega
          have hp100' : (p : Int) < 1000 := by omega
          have ha1 : -1000 < (s0.left.getD k []).getD i 0 := by omega
          have ha2 : (s0.left.getD k []).getD i 0 < 1000 := by omega
          have hr1 := hr.mono (show 1 ≤ 1 from Nat.le_refl 1)
          refine sr_cons (ss_pop 3 8 scReduced.nd (k := k) rfl (pv_ixL (pl_own 7) (j := 0) pv_int rfl) (rows_at hk) (by rw [List.length_map]; have := hRW.ll; omega) ?_)
          refine sr_cons (ss_set 8 scReduced.nd (pv_call Gs hr1 (pvs_cons (pv_var 8) (pvs_cons (pv_call Gi hr1 (pvs_cons (pv_ixT (pv_var 8) (pv_var 6) (map_at hil)) (pvs_cons (pv_var 2) pvs_nil)) ⟨p, (s0.left.getD k []).getD i 0, hp1', hp100', ha1, ha2, hp.inv _ (by omega) hrg.2, rfl, rfl⟩) (pvs_cons (pv_var 2) pvs_nil)))
            ⟨p, invM p ((s0.left.getD k []).getD i 0), s0.left.getD k [], hp.pos, by rw [hwk.len]; exact hn, w_sm hp hwk, rfl, rfl⟩) ?_)
          generalize hhd : scaledM p (s0.left.getD k []) (invM p ((s0.left.getD k []).getD i 0)) = hd0
          have elt : ∀ {r : IRow}, W p n r → RCleared [dRow r, dRow hd0, .int (i : Int), .int (p : Int)] (oR (fun r => clearedM p r hd0 i) (dRow r)) := fun {r} wr => ⟨p, i, r, hd0, hp.pos, by rw [wr.len]; exact hn, w_sm hp wr, by rw [wr.len]; exact hi, rfl, oR_d _ r⟩
          refine sr_cons (ss_setOwn (ds := ((s0.left.eraseIdx k).map fun r => clearedM p r hd0 i).map dRow) 3 scReduced.nd (pf_is (pf_lc (own := [("row", 9)]) (items := (s0.left.map dRow).eraseIdx k) (out := oR fun r => clearedM p r hd0 i) (F := F1 9) (is := [9]) scReduced.nd (pi_list (pe_w _)) (psrc_own (pl_own 3)) (blkOk_by (N := ["rows", "width", "p", "left", "found", "pivots", "at", "heads", "head", "row", "k"]) (sc := defScope sReduced) (by decide +kernel))
            (fun _ _ _ _ _ => pg_one (i := 9) scReduced.nd rfl rfl) (fun d hd => ga1) (by decide) (fun s H C cl fp d hd => ?_) ?_) ?_) ?_)
          · rw [erase_map] at hd
            obtain ⟨r, hr', rfl⟩ := List.mem_map.mp hd
            exact pv_call Gc hr1 (pvs_cons (pv_var 9) (pvs_cons (pv_var 8) (pvs_cons (pv_var 6) (pvs_cons (pv_var 2) pvs_nil)))) (elt (hRW.l _ (List.mem_of_mem_eraseIdx hr')))
          · rw [erase_map, List.length_map]
            have := List.length_eraseIdx_le s0.left k
            have := hRW.ll
            omega
          · rw [erase_map, map_oR]
          refine sr_cons (ss_set 4 scReduced.nd (PF.pv (pf_is (ds' := ((s0.found.map fun r => clearedM p r hd0 i) ++ [hd0]).map dRow) (pf_cat (PF.pl (pf_lc (own := [("row", 9)]) (out := oR fun r => clearedM p r hd0 i) (F := F1 9) (is := [9]) scReduced.nd (pi_list (pe_w _)) (FSrc.p (fsrc_list (pv_var 4))) (blkOk_by (N := ["rows", "width", "p", "left", "found", "pivots", "at", "heads", "head", "row", "k"]) (sc := defScope sReduced) (by decide +kernel))
            (fun _ _ _ _ _ => pg_one (i := 9) scReduced.nd rfl rfl) (fun d hd => ga1) (by decide) (fun s H C cl fp d hd => ?_) ?_)) (PF.pl (pf_lst (pvs_cons (pv_var 8) pvs_nil) (hl := Nat.le_of_ble_eq_true rfl))) ?_) ?_)) ?_)
          · obtain ⟨r, hr', rfl⟩ := List.mem_map.mp hd
            exact pv_call Gc hr1 (pvs_cons (pv_var 9) (pvs_cons (pv_var 8) (pvs_cons (pv_var 6) (pvs_cons (pv_var 2) pvs_nil)))) (elt (hRW.f _ hr'))
          · rw [List.length_map]; have := hRW.fl; omega
          · rw [List.length_map, List.length_map]
            have := hRW.fl
            show s0.found.length + 1 ≤ 100000
            omega
          · rw [map_oR, List.map_append]; rfl
          refine sr_cons (ss_app 5 rfl (pv_var 6) ?_ (sr_nil (sr_nil ⟨redStep p s0 i, .val (.int (i : Int)), .own (dPiv (k :: ks)), .val (dRow hd0), ?_, hnx⟩)))
          · unfold dPiv
            rw [List.length_map, hRW.pl]; have := hRW.fl; omega
          · rw [hst]
            unfold redHit
            rw [hhd]
            show _ = [Sl.val d0, .val (.int (n : Int)), .val (.int (p : Int)), _, _, .own (dPiv (s0.piv ++ [i])), _, _, _, .no, .no]
            rw [show dPiv (s0.piv ++ [i]) = dPiv s0.piv ++ [.int (i : Int)] from List.map_append]
            rfl
      · cases hh : heads s0.left i with
        | cons k ks => rw [hh] at hb; simp [dPiv] at hb
        | nil =>
          have hst : redStep p s0 i = s0 := by unfold redStep; rw [hh]
          exact sr_nil (sr_nil ⟨s0, .val (.int (i : Int)), .own (dPiv []), e8, rfl, by rw [← hnx, hst]⟩)
  · obtain ⟨s0, e6, e7, e8, rfl, hs0⟩ := hI
    rw [rng_len, Int.toNat_natCast] at hs0
    refine sr_cons (ss_ret (pv_tup (pvs_cons (pv_tupL T.tuple (PV.pl (pv_var 4))) (pvs_cons (pv_tupL T.tuple (pl_own 5)) pvs_nil)) (hl := Nat.le_of_ble_eq_true rfl)) ?_)
    rw [hs0]; rfl
end
end PcW
set_option Elab.async false
set_option linter.all false
set_option maxRecDepth 100000
set_option maxHeartbeats 4000000
/-! span, kernel, sum_of, common_part. -/
namespace PcW
open PySem PySem.Spec PyProof.Rows L2 PcLin
theorem dPiv_eq (q : List Nat) : dPiv q = (q.map fun (i : Nat) => (i : Int)).map .int := by
  unfold dPiv
  rw [List.map_map]; rfl
theorem contains_cast (q : List Nat) (f : Nat) : (q.map fun (i : Nat) => (i : Int)).contains (f : Int) = q.contains f := by
  rw [Bool.eq_iff_iff, List.contains_iff_mem, List.contains_iff_mem, List.mem_map]
  constructor
  · rintro ⟨a, h, e⟩
    rw [← Int.ofNat_inj.mp e]; exact h
  · exact fun h => ⟨f, h, rfl⟩
theorem zd_piv (tab : List IRow) : ∀ (piv : List Nat), zd (tab.map dRow) (dPiv piv) = (tab.zip piv).map fun lq => .tuple [dRow lq.1, .int (lq.2 : Int)] := by
  induction tab with
  | nil => intro _; rfl
  | cons r tab ih =>
    intro piv
    cases piv with
    | nil => rfl
    | cons q piv =>
      show PyData.tuple [dRow r, .int (q : Int)] :: zd (tab.map dRow) (dPiv piv) = _
      rw [ih]; rfl
def oEq (f : Nat) : PyData → PyData
  | .int k => .int (if decide (k = (f : Int)) then 1 else 0)
  | _ => .none
theorem rng_unit (n f : Nat) : (rng 0 n).map (oEq f) = (unitM n f).map .int := by
  unfold rng unitM
  rw [List.map_map, List.map_map]
  refine List.map_congr_left fun k _ => ?_
  show PyData.int (if decide (0 + (k : Int) = (f : Int)) then 1 else 0) = .int (if k = f then 1 else 0)
  by_cases c : k = f
  · rw [if_pos c, if_pos (by rw [decide_eq_true_eq]; omega)]
  · rw [if_neg c, if_neg (by rw [decide_eq_true_eq]; omega)]
section
variable {p n : Nat}
theorem w_unit (h : Pr p) (f : Nat) : W p n (unitM n f) := ⟨by unfold unitM; rw [List.length_map, List.length_range], fun x hx => by
  obtain ⟨i, _, rfl⟩ := List.mem_map.mp hx
  have := h.lo
  split <;> omega⟩
theorem w_set (h : Pr p) {r : IRow} (w : W p n r) (k : Nat) (x : Int) : W p n (r.set k (x % (p : Int))) := ⟨by rw [List.length_set]; exact w.len, fun y hy => by
  rcases List.mem_or_eq_of_mem_set hy with c | c
  · exact w.rng y c
  · rw [c]; exact mod_in h _⟩
theorem w_kfold (h : Pr p) (f : Nat) : ∀ (l : List (IRow × Nat)) {r : IRow}, W p n r → W p n (l.foldl (kerSet p f) r)
  | [], _, w => w
  | _ :: l, _, w => w_kfold h f l (w_set h w _ _)
theorem w_kerRows (h : Pr p) (tab : List IRow) (piv : List Nat) : ∀ r ∈ kerRows p tab piv n, W p n r := fun r hr => by
  obtain ⟨f, _, rfl⟩ := List.mem_map.mp hr
  exact w_kfold h f _ (w_unit h f)
theorem kerRows_len (tab : List IRow) (piv : List Nat) : (kerRows p tab piv n).length ≤ n := by
  unfold kerRows
  rw [List.length_map]
  exact Nat.le_trans (List.length_filter_le _ _) (by rw [List.length_range]; exact Nat.le_refl _)
theorem w_kernel (h : Pr p) (rows : List IRow) : ∀ r ∈ kernelM p rows n, W p n r := w_tab h (w_kerRows h _ _)
theorem tab_len (h : Pr p) {rows : List IRow} (hw : ∀ r ∈ rows, W p n r) : (tabM p rows n).length ≤ n := (tab_RW h hw).fl
theorem kernel_len (h : Pr p) (rows : List IRow) : (kernelM p rows n).length ≤ n := tab_len h (w_kerRows h _ _)
end
section
variable {P : Program} {w : World} {K : PySem.W.Frag} {mg : Str → Option Value} {base : Heap} {f : Addr} {fd : FuncData}
theorem scSpan : FnScope ["rows", "width", "p"] ["rows", "width", "p"] (defScope sSpan) := ⟨rfl, rfl, rfl, by decide +kernel, rfl, by decide +kernel, by decide +kernel⟩
def RSpan : List PyData → PyData → Prop := fun ds d => ∃ (p n : Nat) (rows : List IRow), Pr p ∧ n ≤ 1000 ∧ rows.length ≤ 1000 ∧ (∀ r ∈ rows, W p n r) ∧ (ds = [dRows rows, .int (n : Int), .int (p : Int)] ∨ ds = [dTab rows, .int (n : Int), .int (p : Int)]) ∧ d = dTab (tabM p rows n)
theorem ok_span (F : Fun K "span" "span" sSpan f fd) (T : Bi mg) (G : Fc P w K mg base 2 "reduced" ["rows", "width", "p"] (spF RReduced)) : FnOk P w K mg base CX0 3 f fd ["rows", "width", "p"] (spF RSpan) := by
  refine fn_data F scSpan (fun ds d h => by obtain ⟨p, n, rows, _, _, _, _, h, _⟩ := h; rcases h with rfl | rfl <;> rfl) fun cdv A outer s H E ds d hr h => ?_
  obtain ⟨p, n, rows, hp, hn, hm, hw, hds, rfl⟩ := h
  obtain ⟨d0, rfl, hd0⟩ : ∃ d0, ds = [d0, .int (n : Int), .int (p : Int)] ∧ (d0 = dRows rows ∨ d0 = dTab rows) := by
    rcases hds with rfl | rfl
    · exact ⟨_, rfl, .inl rfl⟩
    · exact ⟨_, rfl, .inr rfl⟩
  exact sr_cons (ss_ret (pv_ixT (j := 0) (pv_call G hr (pvs_cons (pv_var 0) (pvs_cons (pv_var 1) (pvs_cons (pv_var 2) pvs_nil))) ⟨p, n, rows, hp, hn, hm, hw, hds, rfl⟩) pv_int rfl) rfl)
theorem scKernel : FnScope ["rows", "width", "p", "table", "pivots", "found", "free", "row", "at", "line"] ["rows", "width", "p"] (defScope sKernel) := ⟨rfl, rfl, rfl, by decide +kernel, rfl, by decide +kernel, by decide +kernel⟩
def RKernel : List PyData → PyData → Prop := fun ds d => ∃ (p n : Nat) (rows : List IRow), Pr p ∧ n ≤ 400 ∧ rows.length ≤ 1000 ∧ (∀ r ∈ rows, W p n r) ∧ ds = [dTab rows, .int (n : Int), .int (p : Int)] ∧ d = dTab (kernelM p rows n)
theorem ok_kernel (F : Fun K "kernel" "kernel" sKernel f fd) (T : Bi mg) (G : Fc P w K mg base 2 "reduced" ["rows", "width", "p"] (spF RReduced)) (Gs : Fc P w K mg base 3 "span" ["rows", "width", "p"] (spF RSpan)) : FnOk P w K mg base CX0 4 f fd ["rows", "width", "p"] (spF RKernel) := by
  refine fn_data F scKernel (fun ds d h => by obtain ⟨p, n, rows, _, _, _, _, rfl, _⟩ := h; rfl) fun cdv A outer s H E ds d hr h => ?_
  obtain ⟨p, n, rows, hp, hn, hm, hw, rfl, rfl⟩ := h
  have hr2 := hr.mono (show 2 ≤ 3 by decide)
  have hn1 : n ≤ 1000 := by omega
  have TW := tab_RW hp hw
  refine sr_cons (ss_asg (pg_tup rfl (pgs_cons (pg_one (i := 3) scKernel.nd rfl rfl) (pgs_cons (pg_one (i := 4) scKernel.nd rfl rfl) pgs_nil))) (F := F2 3 4 (.tuple [dTab (tabM p rows n), .tuple (dPiv (pivM p rows n))])) (is := [3, 4]) (ga2 ⟨_, _, rfl⟩)
    (pv_call G hr2 (pvs_cons (pv_var 0) (pvs_cons (pv_var 1) (pvs_cons (pv_var 2) pvs_nil))) ⟨p, n, rows, hp, hn1, hm, hw, .inr rfl, rfl⟩) ?_)
  have htl : (tabM p rows n).length ≤ n := TW.fl
  have htw : ∀ r ∈ tabM p rows n, W p n r := TW.f
  have hpv : ∀ q ∈ pivM p rows n, q < n := TW.pv
  rw [show kernelM p rows n = tabM p (kerRows p (tabM p rows n) (pivM p rows n) n) n from rfl]
  generalize tabM p rows n = tab at htl htw
  generalize pivM p rows n = piv at hpv
  refine sr_cons (ss_setOwn 5 scKernel.nd (pf_lst pvs_nil) ?_)
  refine sr_cons (ss_for (items := rng 0 (n : Int).toNat) (pi_range1 (by rfl) T.range (pa_w _)) (fsrc_rng1 (pv_var 1) (by omega) (by omega)) (pg_oneC (i := 6) scKernel.nd rfl rfl rfl) (F := F1 6) (is := [6]) (fun d _ => ga1)
    (fun i es => ∃ e6 e7 e8 e9, es = [.val (dTab rows), .val (.int (n : Int)), .val (.int (p : Int)), .val (dTab tab), .val (.tuple (dPiv piv)), .own ((((List.range i).filter fun f => !piv.contains f).map (kerRow p tab piv n)).map dRow), e6, e7, e8, e9]) ⟨.no, .no, .no, .no, rfl⟩ (fun i d es hd hI => ?_) (fun es hI => ?_))
  · obtain ⟨e6, e7, e8, e9, rfl⟩ := hI
    obtain ⟨hi, rfl⟩ := rng_at hd
    rw [Int.zero_add]
    rw [Int.toNat_natCast] at hi
    have hfl : ((((List.range i).filter fun f => !piv.contains f).map (kerRow p tab piv n)).map dRow).length < 100000 := by
      rw [List.length_map, List.length_map]
      have := List.length_filter_le (fun f => !piv.contains f) (List.range i)
      rw [List.length_range] at this
      omega
    refine sr_cons (ss_if (pb_niT (ns := piv.map fun (i : Nat) => (i : Int)) (pv_var 6) (pv_is (pv_var 4) (by rw [dPiv_eq]))) (fun hb => ?_) (fun hb => ?_))
    · rw [contains_cast] at hb
      refine sr_cons (ss_setLc 7 (own := [("at", 8)]) (out := oEq i) (F := F1 8) (is := [8]) scKernel.nd (pi_range1 (by rfl) T.range (pa_w _)) (FSrc.p (fsrc_rng1 (pv_var 1) (by omega) (by omega))) (blkOk_by (N := ["rows", "width", "p", "table", "pivots", "found", "free", "row", "at", "line"]) (sc := defScope sKernel) (by decide +kernel))
        (fun _ _ _ _ _ => pg_one (i := 8) scKernel.nd rfl rfl) (fun d hd => ga1) (by decide) (fun s H C cl fp d hd => ?_) ?_ ?_ (sw_true rfl rfl rfl (by decide +kernel)))
      · obtain ⟨k, hk, rfl⟩ := rng_mem hd
        exact pv_intB T.int (pv_eqI (pv_var 8) (pv_var 6))
      · rw [rng_len]; omega
      · rw [Int.toNat_natCast, rng_unit]
        refine sr_cons (ss_for (items := zd (tab.map dRow) (dPiv piv)) (RZ.pi_zipA (by rfl) T.zip (pa_w _)) (fsrc_zipT (pvs_cons (pv_var 3) (pvs_cons (pv_var 4) pvs_nil))) (pg_tup rfl (pgs_cons (pg_one (i := 9) scKernel.nd rfl rfl) (pgs_cons (pg_one (i := 8) scKernel.nd rfl rfl) pgs_nil))) (F := F2 9 8) (is := [9, 8]) (fun d hd => by
            obtain ⟨a, b, _, _, rfl⟩ := mem_zd hd
            exact ga2 ⟨_, _, rfl⟩)
          (fun j es => ∃ e8 e9, es = [.val (dTab rows), .val (.int (n : Int)), .val (.int (p : Int)), .val (dTab tab), .val (.tuple (dPiv piv)), .own ((((List.range i).filter fun f => !piv.contains f).map (kerRow p tab piv n)).map dRow), .val (.int (i : Int)), .own ((((tab.zip piv).take j).foldl (kerSet p i) (unitM n i)).map .int), e8, e9]) ⟨_, _, rfl⟩ (fun j d es hd hI => ?_) (fun es hI => ?_))
        · obtain ⟨e8, e9, rfl⟩ := hI
          rw [zd_piv, List.getElem?_map] at hd
          cases hlq : (tab.zip piv)[j]? with
          | none => rw [hlq] at hd; cases hd
          | some lq =>
            rw [hlq] at hd
            cases hd
            have hmem := List.of_mem_zip (List.mem_of_getElem? hlq)
            have hwl := htw _ hmem.1
            have hq := hpv _ hmem.2
            rw [foldl_take _ _ _ hlq]
            have hwr : W p n (((tab.zip piv).take j).foldl (kerSet p i) (unitM n i)) := w_kfold hp i _ (w_unit hp i)
            generalize ((tab.zip piv).take j).foldl (kerSet p i) (unitM n i) = row at hwr
            refine sr_cons (ss_setAt 7 (k := lq.2) rfl (pv_mod hp.pos (pv_neg (pv_ixT (pv_var 9) (pv_var 6) (map_at (by rw [hwl.len]; exact hi)))) (pv_var 2)) (pv_var 8) (by rw [List.length_map, hwr.len]; exact hq) (sr_nil ⟨.val (.int (lq.2 : Int)), .val (dRow lq.1), ?_⟩))
            rw [show (kerSet p i row lq).map PyData.int = (row.map PyData.int).set lq.2 (.int ((-(lq.1.getD i 0)) % (p : Int))) from List.map_set]
            rfl
        · obtain ⟨e8, e9, rfl⟩ := hI
          rw [show (tab.zip piv).take (zd (tab.map dRow) (dPiv piv)).length = tab.zip piv from by rw [zd_piv, List.length_map, List.take_length]]
          refine sr_cons (ss_app 5 rfl (pv_tupL T.tuple (pl_own 7)) hfl (sr_nil (sr_nil ⟨.val (.int (i : Int)), .own ((kerRow p tab piv n i).map .int), e8, e9, ?_⟩)))
          rw [List.range_succ, List.filter_append, List.map_append, List.map_append, show [i].filter (fun f => !piv.contains f) = [i] from by rw [List.filter_cons, if_pos hb]; rfl]
          rfl
    · rw [contains_cast] at hb
      refine sr_nil (sr_nil ⟨.val (.int (i : Int)), e7, e8, e9, ?_⟩)
      rw [List.range_succ, List.filter_append, show [i].filter (fun f => !piv.contains f) = [] from by rw [List.filter_cons, hb]; rfl, List.append_nil]
      rfl
  · obtain ⟨e6, e7, e8, e9, rfl⟩ := hI
    rw [rng_len, Int.toNat_natCast]
    refine sr_freeze 5 rfl (sr_cons (ss_ret (pv_call Gs hr (pvs_cons (pv_var 5) (pvs_cons (pv_var 1) (pvs_cons (pv_var 2) pvs_nil))) ⟨p, n, kerRows p tab piv n, hp, hn1, Nat.le_trans (kerRows_len _ _) hn1, w_kerRows hp _ _, .inl rfl, rfl⟩) rfl))
theorem scSumOf : FnScope ["a", "b", "width", "p"] ["a", "b", "width", "p"] (defScope sSumOf) := ⟨rfl, rfl, rfl, by decide +kernel, rfl, by decide +kernel, by decide +kernel⟩
def RSumOf : List PyData → PyData → Prop := fun ds d => ∃ (p n : Nat) (a b : List IRow), Pr p ∧ n ≤ 400 ∧ a.length ≤ 400 ∧ b.length ≤ 400 ∧ (∀ r ∈ a, W p n r) ∧ (∀ r ∈ b, W p n r) ∧ ds = [dTab a, dTab b, .int (n : Int), .int (p : Int)] ∧ d = dTab (tabM p (a ++ b) n)
theorem ok_sumof (F : Fun K "sum_of" "sum_of" sSumOf f fd) (T : Bi mg) (Gs : Fc P w K mg base 3 "span" ["rows", "width", "p"] (spF RSpan)) : FnOk P w K mg base CX0 4 f fd ["a", "b", "width", "p"] (spF RSumOf) := by
  refine fn_data F scSumOf (fun ds d h => by obtain ⟨p, n, a, b, _, _, _, _, _, _, rfl, _⟩ := h; rfl) fun cdv A outer s H E ds d hr h => ?_
  obtain ⟨p, n, a, b, hp, hn, ha, hb, hwa, hwb, rfl, rfl⟩ := h
  have hl : (a ++ b).length ≤ 1000 := by rw [List.length_append]; omega
  have hl2 : (a.map dRow).length + (b.map dRow).length ≤ 100000 := by rw [List.length_map, List.length_map]; omega
  have hw : ∀ r ∈ a ++ b, W p n r := fun r hr => (List.mem_append.mp hr).elim (hwa r) (hwb r)
  exact sr_cons (ss_ret (pv_call Gs hr (pvs_cons (pv_is (pv_catT (pv_var 0) (pv_var 1) hl2) (by rw [← List.map_append])) (pvs_cons (pv_var 2) (pvs_cons (pv_var 3) pvs_nil))) ⟨p, n, a ++ b, hp, by omega, hl, hw, .inr rfl, rfl⟩) rfl)
theorem scCommon : FnScope ["a", "b", "width", "p"] ["a", "b", "width", "p"] (defScope sCommon) := ⟨rfl, rfl, rfl, by decide +kernel, rfl, by decide +kernel, by decide +kernel⟩
def RCommon : List PyData → PyData → Prop := fun ds d => ∃ (p n : Nat) (a b : List IRow), Pr p ∧ n ≤ 400 ∧ a.length ≤ 400 ∧ b.length ≤ 400 ∧ (∀ r ∈ a, W p n r) ∧ (∀ r ∈ b, W p n r) ∧ ds = [dTab a, dTab b, .int (n : Int), .int (p : Int)] ∧ d = dTab (commonM p a b n)
theorem ok_common (F : Fun K "common_part" "common_part" sCommon f fd) (T : Bi mg) (G : Fc P w K mg base 4 "kernel" ["rows", "width", "p"] (spF RKernel)) : FnOk P w K mg base CX0 5 f fd ["a", "b", "width", "p"] (spF RCommon) := by
  refine fn_data F scCommon (fun ds d h => by obtain ⟨p, n, a, b, _, _, _, _, _, _, rfl, _⟩ := h; rfl) fun cdv A outer s H E ds d hr h => ?_
  obtain ⟨p, n, a, b, hp, hn, ha, hb, hwa, hwb, rfl, rfl⟩ := h
  have la := kernel_len (n := n) hp a
  have lb := kernel_len (n := n) hp b
  have hl : (kernelM p a n ++ kernelM p b n).length ≤ 1000 := by rw [List.length_append]; omega
  have hl2 : ((kernelM p a n).map dRow).length + ((kernelM p b n).map dRow).length ≤ 100000 := by rw [List.length_map, List.length_map]; omega
  have hw : ∀ r ∈ kernelM p a n ++ kernelM p b n, W p n r := fun r hr => (List.mem_append.mp hr).elim (w_kernel hp a r) (w_kernel hp b r)
  exact sr_cons (ss_ret (pv_call G hr (pvs_cons (pv_is (d1 := dTab (kernelM p a n ++ kernelM p b n)) (pv_catT (pv_call G hr (pvs_cons (pv_var 0) (pvs_cons (pv_var 2) (pvs_cons (pv_var 3) pvs_nil))) ⟨p, n, a, hp, hn, by omega, hwa, rfl, rfl⟩) (pv_call G hr (pvs_cons (pv_var 1) (pvs_cons (pv_var 2) (pvs_cons (pv_var 3) pvs_nil))) ⟨p, n, b, hp, hn, by omega, hwb, rfl, rfl⟩) hl2) (by rw [← List.map_append])) (pvs_cons (pv_var 2) (pvs_cons (pv_var 3) pvs_nil))) ⟨p, n, kernelM p a n ++ kernelM p b n, hp, hn, hl, hw, rfl, rfl⟩) rfl)
end
end PcW
set_option Elab.async false
set_option linter.all false
set_option maxRecDepth 100000
set_option maxHeartbeats 4000000
/-! A generator whose last statement hands out a list's items; the consumer may change objects of its own. -/
namespace PcW
open PySem PySem.Spec PyProof.Rows L2 PcLin GenW
/-- asleep: v came behind the list at S, what stands at Cs may be another -/
structure Wk (S : Addr) (Cs : List Addr) (v : Value) (s s' : Shared) : Prop where
  os : s'.os = s.os
  bare : AllBare s'.gens
  keep : ∀ b o, b ∉ S :: Cs → s.heap.get? b = some o → s'.heap.get? b = some o
  mine : ∀ b ∈ Cs, ∃ o, s'.heap.get? b = some o ∧ ∀ u, o.data ≠ .cell u
  own : ∀ acc c, s.heap.get? S = some (lstObj acc c) → ∃ c', s'.heap.get? S = some (lstObj (acc.push v) c')
structure Far (X : Cx) (b : Addr) : Prop where
  new : X.s_0.heap.objs.size ≤ b
  loc : b ≠ X.env.locals
  cell : ∀ x c, X.env.cells.lookup x = some c → c ≠ b
  pn : ∀ p ∈ X.pn, p.1 ≠ b
/-- awake since s₀: the consumer's objects stand as they stood -/
structure Rn (X : Cx) (S : Addr) (Cs : List Addr) (s₀ : Shared) (ip : List (Addr × Obj)) (ys : List V) (σ : L2.St) (H : Hp) (s : Shared) : Prop where
  lst : ∃ acc c, Vals ys acc.toList ∧ s₀.heap.get? S = some (lstObj acc c)
  has : ∀ b ∈ S :: Cs, ∃ o, s₀.heap.get? b = some o
  inv : Inv X (pinsAt (S :: Cs) s₀.heap ++ ip) σ H s
section
variable {X : Cx} {S : Addr} {Cs : List Addr} {s₀ s s' : Shared} {ip : List (Addr × Obj)} {ys : List V} {σ : L2.St} {H : Hp}
theorem Rn.pin (h : Rn X S Cs s₀ ip ys σ H s) {b : Addr} (hb : b ∈ S :: Cs) : ∃ o, s₀.heap.get? b = some o ∧ s.heap.get? b = some o ∧ H b = none ∧ b ≠ X.env.locals ∧ b ∉ X.fs ∧ ∀ v, o.data ≠ .cell v := by
  obtain ⟨o, ho⟩ := h.has b hb
  obtain ⟨z1, z2, z3, z4, z5⟩ := h.inv.pin (b, o) (List.mem_append_right _ (List.mem_append_left _ (mem_pinsAt hb ho)))
  exact ⟨o, ho, z1, z2, z3, z4, z5⟩
theorem Rn.kept (h : Rn X S Cs s₀ ip ys σ H s) : ∀ b ∈ S :: Cs, ∀ o, s₀.heap.get? b = some o → s.heap.get? b = some o := fun b hb o e => by
  obtain ⟨o', e1, e2, _⟩ := h.pin hb
  rw [e] at e1; cases e1; exact e2
theorem Rn.wake {x : V} {v : Value} (h : Rn X S Cs s₀ ip ys σ H s) (rv : RelV x v) (z : Wk S Cs v s s') (hf : ∀ b ∈ S :: Cs, Far X b) (hip : ∀ p ∈ ip, p.1 ∉ S :: Cs) : Rn X S Cs s' ip (ys ++ [x]) σ H s' := by
  obtain ⟨acc, c, r, eS⟩ := h.lst
  obtain ⟨c', eS'⟩ := z.own acc c (h.kept S List.mem_cons_self _ eS)
  have pinned := fun {b : Addr} (hb : b ∈ S :: Cs) => h.pin hb
  have I0 : Inv X ip σ H s := h.inv.pins_of fun p hp => h.inv.pin p (List.mem_append_right _ (List.mem_append_right _ hp))
  have off : ∀ b u, H b = some u → b ∉ S :: Cs := fun b u q hb => by
    obtain ⟨_, _, _, n, _⟩ := pinned hb
    rw [n] at q; cases q
  have there' : ∀ b ∈ S :: Cs, ∃ o, s'.heap.get? b = some o ∧ ∀ u, o.data ≠ .cell u := fun b hb => by
    rcases List.mem_cons.mp hb with rfl | hb
    · exact ⟨_, eS', fun v q => by cases q⟩
    · exact z.mine b hb
  obtain ⟨zo, zb, zk, zm, _⟩ := z
  obtain ⟨hh, g, d, t, o⟩ := s'
  have ho : o = s.os := zo
  subst ho
  have J : Inv X ip σ H { s with heap := hh, gens := g, drawn := d, toks := t } := by
    refine I0.step (g' := g) (t' := t) (d' := d) (ch := S :: Cs) (fun b hb => ⟨.inr (hf b hb).new, (hf b hb).loc, (hf b hb).cell, fun p hp => ?_⟩)
      (fun b o _ _ hc q _ => zk b o hc q) (fun b o _ _ hc q _ => ⟨o.slots, zk b o hc q⟩) (fun _ _ _ _ n => n) (fun b o hc q => ⟨o, zk b o hc q⟩)
      (fun _ _ q => q) (fun _ _ _ q => q) (fun b ps q => ⟨#[], by rw [q]; simp⟩) (fun m hm => ?_) (fun b u q => ?_) zb
    · rcases List.mem_append.mp hp with hp | hp
      · exact (hf b hb).pn p hp
      · exact fun e => hip p hp (by rw [e]; exact hb)
    · obtain ⟨o, es, ep, ho, r⟩ := hm
      exact ⟨o, es, ep, zk _ o (fun hb => (hf _ hb).loc rfl) ho, r⟩
    · refine (I0.hok b u q).stay (fun c v hc y => zk c v ?_ y) (fun _ y => y) fun _ _ y => y
      rcases hc with y | y
      · rw [y]; exact off b u q
      · exact off c _ y
  refine ⟨⟨acc.push v, c', ?_, eS'⟩, fun b hb => ?_, J.pins_of fun p hp => ?_⟩
  · rw [Array.toList_push]
    exact r.append (.cons rv .nil)
  · obtain ⟨o, e, _⟩ := there' b hb
    exact ⟨o, e⟩
  · rcases List.mem_append.mp hp with hp | hp
    · obtain ⟨hb, e⟩ := of_pinsAt hp
      obtain ⟨o, e', nd⟩ := there' p.1 hb
      obtain ⟨_, _, _, z2, z3, z4, _⟩ := pinned hb
      have e1 : hh.get? p.1 = some p.2 := e
      have e2 : hh.get? p.1 = some o := e'
      rw [e1] at e2
      cases e2
      exact ⟨e1, z2, z3, z4, nd⟩
    · exact J.pin p (List.mem_append_right _ hp)
def Yw (X : Cx) (S : Addr) (Cs : List Addr) (N : Nat) : Protocol := fun n s₀ v s kap =>
  ∃ ys x ip σ H, n + 1 + ys.length = N ∧ RelV x v ∧ Rn X S Cs s₀ ip ys σ H s ∧ ∀ s', Wk S Cs v s s' → kap (.send .none) s'
def Rw (X : Cx) (S : Addr) (Cs : List Addr) (Q : List V → Hp → Prop) : GenEnd := fun n s₀ r s =>
  r = .ok (.ret .none) ∧ ∃ ys ip σ H, Rn X S Cs s₀ ip ys σ H s ∧ Q ys H
end

/-! ### the walk over a list that hands out its items -/
section
variable {X : Cx} {S : Addr} {Cs : List Addr} {N : Nat} {Q : List V → Hp → Prop} {A : Around} {c : Code} {fs : List Frame}
structure Pl (X : Cx) (A : Around) (c : Code) (fs : List Frame) : Prop where
  over : A.over c fs = X.A
  split : splitAtGen fs = none
  guard : fs.any Frame.guarded = false
theorem den_block {P : Program} {w : World} {env : Env} : (model P w).den (.block [] env) = .pure (.done .next) := rfl
theorem seg_handing {tg : Expr} {g : TG} {i : Nat} {y : Str} {fp : List Addr} {it : Addr} {tn : Nat → Heap → Prop} {J : It} {xs : List V} {H : Hp} {yp ep xp : Pos}
    (hx : X.xe = fun _ _ => False) (hc : X.calm = true) (hg : PG X tg g) (ga : ∀ v (σ : L2.St) (R : L2.St → Hp → Prop), σ.length = X.N.length → (∀ σ', σ'[i]? = some (some v) → R σ' H) → g v σ H R) (hy : PE X (.Name y xp) (tVar i)) (T : Turn X.prog X.w X.K tg J fp it tn)
    (hgo : ∀ j, j < xs.length → J.go j H) (hyl : ∀ j x H', J.yld j H x H' → H' = H ∧ xs[j]? = some x) (hst : J.stop xs.length H) (hN : xs.length ≤ N)
    (hfp : ∀ b ∈ fp, H b = none ∧ b ≠ X.env.locals ∧ b ∉ X.fs ∧ (b ∈ X.ex ∨ X.s_0.heap.objs.size ≤ b) ∧ (∀ x c, X.env.cells.lookup x = some c → c ≠ b) ∧ (∀ p ∈ X.pn, p.1 ≠ b) ∧ b ∉ S :: Cs) (hf : ∀ b ∈ S :: Cs, Far X b)
    (P : Pl X A (.forLoop tg (.ref it) [.Expr (.Yield (some (.Name y xp)) yp) ep] [] X.env) fs) (hco : X.env.scope.isCoroutine = false) (hi : interactive X.env = false)
    (hend : ∀ (n : Nat) (s₀ s : Shared) (σ : L2.St), Rn X S Cs s₀ [] xs σ H s → Seg (model X.prog X.w) A (Rw X S Cs Q) (Yw X S Cs N) n s₀ (.block [] X.env) (.pure (.done .next)) fs s) :
    ∀ (r j n : Nat) (s₀ s : Shared) (σ : L2.St), j + r = xs.length → n + j = N → Rn X S Cs s₀ [] (xs.take j) σ H s → tn j s.heap →
      Seg (model X.prog X.w) A (Rw X S Cs Q) (Yw X S Cs N) n s₀ (.forLoop tg (.ref it) [.Expr (.Yield (some (.Name y xp)) yp) ep] [] X.env) ((model X.prog X.w).den (.forLoop tg (.ref it) [.Expr (.Yield (some (.Name y xp)) yp) ep] [] X.env)) fs s := by
  intro r
  induction r with
  | zero =>
    intro j n s₀ s σ hj hn hR ht
    have hj : j = xs.length := by omega
    subst hj
    have F : ∀ b ∈ fp, FpOk X (pinsAt (S :: Cs) s₀.heap ++ []) H b := fun b hb => by
      obtain ⟨q1, q2, q3, q4, q5, q6, q7⟩ := hfp b hb
      refine ⟨q1, q2, q3, q4, q5, fun p hp e => ?_⟩
      rcases List.mem_append.mp hp with hp | hp
      · exact q6 p hp e
      · rw [List.append_nil] at hp
        exact q7 (e ▸ (of_pinsAt hp).1)
    show Seg _ A _ _ n s₀ _ ((forTurn tg (.ref it) _ [] X.env).onRaise (fun x => do noteFrame x X.env; theTreesLotGoes x)) fs s
    rw [Sem.onRaise_eq_wrap]
    unfold forTurn
    refine seg_bind_wrap (wpAny_standAt (seg_bind_wrap (wpAny_onRaise ?_)))
    rw [P.over]
    refine wpAny_mono (T.done X rfl rfl rfl hc _ _ s σ H (fun _ _ => False) hR.inv F ht hst) (fun u s1 hu => ?_) fun _ _ z => z.elim
    obtain ⟨rfl, I1⟩ := hu
    refine seg_again rfl ?_
    rw [den_block]
    refine hend n s₀ s1 σ ⟨?_, hR.has, I1⟩
    have := hR.lst
    rw [List.take_length] at this
    exact this
  | succ r ih =>
    intro j n s₀ s σ hj hn hR ht
    have hjl : j < xs.length := by omega
    obtain ⟨n, rfl⟩ : ∃ m, n = m + 1 := ⟨n - 1, by omega⟩
    have F : ∀ (s₀ : Shared), ∀ b ∈ fp, FpOk X (pinsAt (S :: Cs) s₀.heap ++ []) H b := fun s₀ b hb => by
      obtain ⟨q1, q2, q3, q4, q5, q6, q7⟩ := hfp b hb
      refine ⟨q1, q2, q3, q4, q5, fun p hp e => ?_⟩
      rcases List.mem_append.mp hp with hp | hp
      · exact q6 p hp e
      · rw [List.append_nil] at hp
        exact q7 (e ▸ (of_pinsAt hp).1)
    show Seg _ A _ _ (n + 1) s₀ _ ((forTurn tg (.ref it) _ [] X.env).onRaise (fun x => do noteFrame x X.env; theTreesLotGoes x)) fs s
    rw [Sem.onRaise_eq_wrap]
    unfold forTurn
    refine seg_bind_wrap (wpAny_standAt (seg_bind_wrap (wpAny_onRaise ?_)))
    rw [P.over]
    refine wpAny_mono (T.item X rfl rfl rfl hc j _ s σ H (fun _ _ => False) hR.inv (F s₀) ht (hgo j hjl)) (fun u s1 hu => ?_) fun _ _ z => z.elim
    obtain ⟨u, rfl, h1⟩ := hu
    refine seg_bind_wrap ?_
    rw [P.over]
    refine wpAny_mono h1 (fun _ s2 h2 => ?_) fun _ _ z => z.elim
    obtain ⟨x, H2, I2, rx, yx, t2, n2⟩ := h2
    obtain ⟨rfl, hxj⟩ := hyl j x H2 yx
    have I3 := I2.pinned (F s₀) (T.obj _ _ t2)
    refine seg_bind_wrap ?_
    rw [P.over]
    refine wpAny_mono (hg.run _ s2 σ H2 x u (fun σ' H' => H' = H2 ∧ σ'[i]? = some (some x)) I3 rx (ga x σ _ I2.len fun σ' e => ⟨rfl, e⟩)) (fun _ s3 h3 => ?_) fun _ _ z => (by rw [hx] at z; exact z.elim)
    obtain ⟨σ', H', I4, rfl, hσ⟩ := h3
    rw [Sem.bind_eq_wrap', Sem.wrap_wrap]
    refine seg_execs_cons (seg_Expr_Yield P.split rfl P.guard ?_ hco hi)
    rw [P.over]
    refine wpAny_mono (hy.run _ s3 σ' H' (fun v H2 => v = x ∧ H2 = H') I4 ⟨x, hσ, rfl, rfl⟩) (fun v s4 h4 => ?_) fun _ _ z => (by rw [hx] at z; exact z.elim)
    obtain ⟨v', H'', I5, rv, rfl, rfl⟩ := h4
    have etk : xs.take j ++ [v'] = xs.take (j + 1) := by rw [List.take_add_one, hxj]; rfl
    have htl : (xs.take j).length = j := by rw [List.length_take]; omega
    have R5 : Rn X S Cs s₀ (pinsAt fp s2.heap) (xs.take j) σ' H'' s4 := ⟨hR.lst, hR.has, I5.pins_of fun p hp => I5.pin p (List.mem_append_right _ (by rw [List.append_nil]; exact hp))⟩
    intro kap hk
    refine ⟨xs.take j, v', pinsAt fp s2.heap, σ', H'', by rw [htl]; exact hn, rv, R5, fun s5 z => hk .none s5 ?_⟩
    have R6 := R5.wake rv z hf fun p hp hb => (hfp p.1 (of_pinsAt hp).1).2.2.2.2.2.2 hb
    rw [etk] at R6
    have t6 : tn (j + 1) s5.heap := T.keep _ _ _ t2 fun b hb o e => (R6.inv.pin (b, o) (List.mem_append_right _ (List.mem_append_right _ (mem_pinsAt hb e)))).1
    refine seg_execs_nil ?_
    refine seg_again rfl (ih (j + 1) n s5 s5 σ' (by omega) (by omega) ⟨R6.lst, R6.has, R6.inv.pins_of fun p hp => R6.inv.pin p (List.mem_append_right _ (List.mem_append_left _ ?_))⟩ t6)
    rw [List.append_nil] at hp
    exact hp
end
end PcW
set_option Elab.async false
set_option linter.all false
set_option maxRecDepth 100000
set_option maxHeartbeats 4000000
/-! Such a generator's body; its call. -/
namespace PcW
open PySem PySem.Spec PyProof.Rows L2 PcLin GenW
def nxOnly (n : L2.St → Hp → Prop) : Ends := { nx := n, rt := fun _ _ => False, bk := fun _ _ => False, ct := fun _ _ => False }
theorem sp_nx {X : Cx} {pins : List (Addr × Obj)} {n : L2.St → Hp → Prop} {f : Flow} {s : Shared} (h : SP X pins (nxOnly n) f s) : f = .next ∧ ∃ σ H, Inv X pins σ H s ∧ n σ H := by
  cases f with
  | next => exact ⟨rfl, h⟩
  | brk => obtain ⟨_, _, _, q⟩ := h; exact q.elim
  | cont => obtain ⟨_, _, _, q⟩ := h; exact q.elim
  | ret u => obtain ⟨_, _, _, _, _, q⟩ := h; exact q.elim
section
variable {X : Cx} {S : Addr} {Cs : List Addr} {Q : List V → Hp → Prop} {A : Around} {s₀ : Shared} {σ : L2.St} {H : Hp}
theorem seg_gen {st1 st2 : Stmt} {iter : Expr} {i : Nat} {y : Str} {yp ep xp tp fpos : Pos} {c : Nat} (hx : X.xe = fun _ _ => False) (hc : X.calm = true)
    (hov : A.over (.func [st1, st2, .For (.Name y tp) iter [.Expr (.Yield (some (.Name y xp)) yp) ep] [] fpos] X.env) [] = X.A)
    (hg : PG X (.Name y tp) (gName i)) (hi : i < X.N.length) (hy : PE X (.Name y xp) (tVar i)) (hco : X.env.scope.isCoroutine = false) (hin : interactive X.env = false) (hfs : ∀ v, foldedSetIterable iter X.env v = pure v)
    (I : Inv X (pinsAt (S :: Cs) s₀.heap ++ []) σ H s₀) (hS : s₀.heap.get? S = some (lstObj #[] c)) (has : ∀ b ∈ S :: Cs, ∃ o, s₀.heap.get? b = some o) (hf : ∀ b ∈ S :: Cs, Far X b)
    (h : wS X st1 (nxOnly fun σ1 H1 => wS X st2 (nxOnly fun σ2 H2 => iList X.K (wE X iter) σ2 H2 fun J H3 => ∃ a xs, J = Itl X.K a ∧ SqL X.K H3 a xs ∧ xs.length ≤ sizeLine ∧ Q xs H3) σ1 H1) σ H) :
    Seg (model X.prog X.w) A (Rw X S Cs Q) (Yw X S Cs sizeLine) sizeLine s₀ (.func [st1, st2, .For (.Name y tp) iter [.Expr (.Yield (some (.Name y xp)) yp) ep] [] fpos] X.env)
      ((model X.prog X.w).den (.func [st1, st2, .For (.Name y tp) iter [.Expr (.Yield (some (.Name y xp)) yp) ep] [] fpos] X.env)) [] s₀ := by
  have no : ∀ {R : Prop} {v : Value} {s : Shared}, X.xe v s → R := fun z => by rw [hx] at z; exact z.elim
  refine seg_func ?_
  refine seg_execs_cons (seg_wrap ?_)
  rw [hov]
  refine wpAny_mono (h _ s₀ I) (fun f s1 h1 => ?_) fun _ _ z => no z
  obtain ⟨rfl, σ1, H1, I1, h1⟩ := sp_nx h1
  refine seg_execs_cons (seg_wrap ?_)
  rw [hov]
  refine wpAny_mono (h1 _ s1 I1) (fun f s2 h2 => ?_) fun _ _ z => no z
  obtain ⟨rfl, σ2, H2, I2, h2⟩ := sp_nx h2
  refine seg_execs_cons ?_
  rw [exec_For]
  refine seg_bind_wrap (wpAny_standAt (seg_bind_wrap ?_))
  rw [hov]
  refine wpAny_mono ((pi_list (tg := .Name y tp) (pe_w iter)).run _ s2 σ2 H2 _ I2 h2) (fun v s3 h3 => ?_) fun _ _ z => no z
  refine seg_bind_wrap (wpAny_of_eq (hfs v) ?_)
  refine seg_bind_wrap (wpAny_standAt (seg_bind_wrap (wpAny_holding ?_)))
  rw [hov]
  refine wpAny_mono h3 (fun itv s4 h4 => ?_) fun _ _ z => no z
  obtain ⟨it, fp, tn, J, H4, rfl, I4, T, t4, f4, a, xs, rfl, hq, hz, hQ⟩ := h4
  refine seg_call fun p => ?_
  refine seg_handing (N := sizeLine) (i := i) hx hc hg (fun v σ R hl q => q _ (by rw [List.getElem?_set_self (by rw [hl]; exact hi)])) hy T (xs := xs) (H := H4) (fun j hj => ⟨xs, xs[j], hq, List.getElem?_eq_getElem hj⟩) (fun j x H' yy => ⟨yy.1, yy.2 xs hq⟩) ⟨xs, hq, Nat.le_refl _⟩ hz
    (fun b hb => ?_) hf ⟨?_, rfl, rfl⟩ hco hin (fun n s₁ s σ hR => ?_) xs.length 0 sizeLine s₀ s4 σ2 (Nat.zero_add _) rfl ⟨⟨#[], c, .nil, hS⟩, has, I4⟩ t4
  · obtain ⟨q1, q2, q3, q4, q5, q6⟩ := f4 b hb
    refine ⟨q1, q2, q3, q4, q5, fun p hp => q6 p (List.mem_append_left _ hp), fun hm => ?_⟩
    obtain ⟨o, e⟩ := has b hm
    exact q6 (b, o) (List.mem_append_right _ (List.mem_append_left _ (mem_pinsAt hm e))) rfl
  · exact (over_loop rfl rfl).trans hov
  · refine seg_leaf (.ok .next) ?_
    exact seg_end (.ok (.ret .none)) ⟨rfl, xs, [], σ, H4, hR, hQ⟩
end

/-! ### the call -/
def FE (P : Program) (w : World) (outer : List Env) (H : Hp) (s : Shared) (S : Addr) (Cs : List Addr) (Q : List V → Hp → Prop) (n : Nat) (s₀ s1 : Shared) : Prop :=
  ∃ H' ys acc c, s1.os = s.os ∧ AllBare s1.gens ∧ Un (frs outer) [] H H' s.heap s1.heap ∧ HOk P w H' s1.heap ∧ (∀ b ∈ S :: Cs, H' b = none ∧ ∀ o, s₀.heap.get? b = some o → s1.heap.get? b = some o) ∧
    s1.heap.get? S = some (lstObj acc c) ∧ Vals ys acc.toList ∧ Q ys H'
def RE (P : Program) (w : World) (outer : List Env) (H : Hp) (s : Shared) (S : Addr) (Cs : List Addr) (Q : List V → Hp → Prop) : GenEnd := fun n s₀ r s1 =>
  ((r = .ok (.ret .none) ∨ r = .ok .next) ∧ FE P w outer H s S Cs Q n s₀ s1) ∨ ∃ e, r = .error e ∧ (fun (_ : Value) (_ : Shared) => False) e s1
def YE (s : Shared) (S : Addr) (Cs : List Addr) (a : Addr) (g : Nat) : Protocol := fun n s₀ v s1 kap =>
  s1.os = s.os ∧ AllBare s1.gens ∧ s1.heap.NoLimit ∧ s1.heap.IsGen a g ∧ (∃ (acc : Array Value) (c : Nat), s1.heap.get? S = some (lstObj acc c) ∧ n + 1 + acc.size = sizeLine) ∧ (∀ b ∈ S :: Cs, ∀ o, s₀.heap.get? b = some o → s1.heap.get? b = some o) ∧
    ∀ s', Wk S Cs v s1 s' → kap (.send .none) s'
def Made (P : Program) (w : World) (k : Nat) (outer : List Env) (H : Hp) (s : Shared) (Q : List V → Hp → Prop) (u : Value) (s' : Shared) : Prop :=
  ∃ (a : Addr) (g : Nat) (c : Code), u = .ref a ∧ s.heap.objs.size ≤ a ∧ a < s'.heap.objs.size ∧ s'.heap.IsGen a g ∧ s'.gens[g]? = some (.fresh c) ∧ s'.os = s.os ∧ AllBare s'.gens ∧ s'.heap.NoLimit ∧ (∀ b o, s.heap.get? b = some o → s'.heap.get? b = some o) ∧
    ∀ (A : Around) (S : Addr) (Cs : List Addr) (s2 : Shared), Room k A → A.frames = some outer → s'.heap.objs.size ≤ S → (∀ b ∈ Cs, s'.heap.objs.size ≤ b ∧ ∃ o, s2.heap.get? b = some o ∧ ∀ v, o.data ≠ .cell v) → (∀ b o, s'.heap.get? b = some o → s2.heap.get? b = some o) →
      (∃ c, s2.heap.get? S = some (lstObj #[] c)) → s2.os = s.os → AllBare s2.gens → Seg (model P w) A (RE P w outer H s S Cs Q) (YE s S Cs a g) sizeLine s2 c ((model P w).den c) [] s2
theorem Made.gm {P : Program} {w : World} {k : Nat} {outer : List Env} {H : Hp} {s : Shared} {Q : List V → Hp → Prop} {u : Value} {s' : Shared} {E : XK} (hQ : ∀ ys H', Q ys H' → ys.length ≤ sizeLine) (h : Made P w k outer H s Q u s') : GMade P w k outer H s [] Q E u s' := by
  obtain ⟨a, g, c, rfl, h1, h2, h3, h4, h5, h6, h7, h8, go⟩ := h
  refine ⟨a, g, c, rfl, h1, h2, h3, h4, h5, h6, h7, h8, fun A S s2 r f q1 q2 q3 q4 q5 => ?_⟩
  refine seg_imp (fun n s₀ r s1 q => ?_) (fun n s₀ v s1 kap kap' hk q => ?_) sizeLine (go A S [] s2 r f q1 (fun b hb => by cases hb) q2 q3 q4 q5)
  · obtain ⟨hr, H', ys, acc, cc, z1, z2, z3, z4, z5, z6, z7, z8⟩ | ⟨_, _, q⟩ := q
    exact .inl ⟨hr, H', ys, acc, cc, z1, z2, z3, z4, (z5 S List.mem_cons_self).1, z6, z7, hQ _ _ z8, z8⟩
    exact q.elim
  · obtain ⟨z1, z2, z3, z4, z5, _, z7⟩ := q
    refine ⟨z1, z2, z3, z4, z5, fun s' z => hk _ _ (z7 s' ⟨z.os, z.bare, fun b o hb => z.keep b o fun e => hb (by rw [e]; exact List.mem_cons_self), fun b hb => (by cases hb), z.own⟩)⟩
structure GenOk (P : Program) (w : World) (K : PySem.W.Frag) (mg : Str → Option Value) (base : Heap) (k : Nat) (f : Addr) (fd : FuncData) (ps : List Str) (R : List PyData → List PyData → Prop) : Prop where
  len : ∀ ds out, R ds out → ds.length = ps.length
  run : ∀ (A : Around) (outer : List Env) (s : Shared) (H : Hp) (args : Args) (us : List Value) (vs : List V) (C : Addr → Prop) (ds out : List PyData), Room k A → Env0 P w K mg base A outer s H → BindsTo s fd args (ps.zip us) → Vals vs us → (∀ a, C a → ∃ o, H a = some o) → RpAll (hid C H) vs ds → R ds out →
    codeAny (model P w) A (.call (.ref f) args) (fun r s' => match r with | .ok (.ret u) => Made P w k outer H s (fun ys H' => Ex H H' ∧ RpAll (hid C H') ys out) u s' | _ => False) s
abbrev gX (P : Program) (w : World) (K : PySem.W.Frag) (mg : Str → Option Value) (base : Heap) (N : List Str) (qual : Str) (sc : Scope) (f : Addr) (cd : Value) (A : Around) (outer : List Env) (s : Shared) (H : Hp) (pn : List (Addr × Obj)) : Cx := (gcxOf P w K mg base N qual sc f cd A outer s H E0 pn).nox
theorem sit_start {N : List Str} {C : Addr → Prop} {H : Hp} {vs : List V} {ds : List PyData} (dm : ∀ a, C a → ∃ o, H a = some o) (r : RpAll (hid C H) vs ds) (hl : ds.length ≤ N.length) : Sit H C C H (L2.start N vs) (es0 N ds) := by
  have no : ∀ (i : Nat) (e : Sl), (es0 N ds)[i]? = some e → (∃ d v, e = .val d ∧ (L2.start N vs)[i]? = some (some v) ∧ Rp (hid C H) v d) ∨ e = .no := fun i e h => by
    unfold es0 at h
    by_cases hi : i < ds.length
    · rw [List.getElem?_append_left (by rw [List.length_map]; exact hi), List.getElem?_map, List.getElem?_eq_getElem hi] at h
      cases h
      obtain ⟨v, hv, rv⟩ := r.get (List.getElem?_eq_getElem hi)
      exact .inl ⟨_, v, rfl, start_at hv, rv⟩
    · rw [List.getElem?_append_right (by rw [List.length_map]; omega), List.getElem?_replicate] at h
      split at h
      · cases h; exact .inr rfl
      · cases h
  refine ⟨Ex.refl H, fun _ h => h, dm, dm, fun a h => .inl h, ?_, fun i e h => ?_, fun i j e f p h1 h2 m1 => ?_⟩
  · rw [start_len (by rw [r.len]; exact hl)]
    unfold es0
    rw [List.length_append, List.length_map, List.length_replicate]; omega
  · rcases no i e h with ⟨d, v, rfl, hv, rv⟩ | rfl
    · exact ⟨v, hv, rv⟩
    · trivial
  · rcases no i e h1 with ⟨d, v, rfl, _⟩ | rfl <;> cases m1
section
variable {P : Program} {w : World} {K : PySem.W.Frag} {mg : Str → Option Value} {base : Heap}
theorem gen_data {x qual : Str} {st st1 st2 : Stmt} {iter : Expr} {y : Str} {yp ep xp tp fpos : Pos} {f : Addr} {fd : FuncData} {N ps : List Str} {k i : Nat} {R : List PyData → List PyData → Prop} (F : Fun K x qual st f fd) (Sc : GScope N ps (defScope st))
    (hb : defBody st = [st1, st2, .For (.Name y tp) iter [.Expr (.Yield (some (.Name y xp)) yp) ep] [] fpos]) (len : ∀ ds out, R ds out → ds.length = ps.length) (hi : N[i]? = some y) (hyl : (defScope st).names.lookup y = some .local)
    (hd : (y == ("__debug__" : Str)) = false) (hcd : (y == ("__classdict__" : Str)) = false) (hfs : ∀ env v, foldedSetIterable iter env v = pure v) (hin : ∀ n cdv, interactive (envOfC qual (defScope st) n f cdv) = false) (hz : ∀ ds out, R ds out → out.length ≤ 100000)
    (body : ∀ (cdv : Value) (A : Around) (outer : List Env) (s : Shared) (H : Hp) (pn : List (Addr × Obj)) (ds out : List PyData), Room k (A.deeper (envOfC qual (defScope st) s.heap.objs.size f cdv)) → R ds out →
      SS (gX P w K mg base N qual (defScope st) f cdv A outer s H pn) (es0 N ds) st1 { nx := fun es1 => SS (gX P w K mg base N qual (defScope st) f cdv A outer s H pn) es1 st2 { nx := fun es2 => PF (gX P w K mg base N qual (defScope st) f cdv A outer s H pn) es2 iter out, rt := fun _ _ => False }, rt := fun _ _ => False }) :
    GenOk P w K mg base (k + 1) f fd ps R := by
  have hpl : ps.length ≤ N.length := by
    have := congrArg List.length Sc.pre
    rw [List.length_take] at this; omega
  obtain ⟨oc, od, kV, doc, pm, an, cdv, ct, osl, rfl, lk, hcode⟩ := F.ex
  refine ⟨len, fun A outer s H args us vs C ds out hr e0 hbd r dm rp hR => ?_⟩
  have hl : vs.length = ps.length := by rw [rp.len]; exact len ds out hR
  have KX : K.In s.heap := e0.mod.kin.keeps fun b o e => (e0.bs b o e).1
  have lim : s.heap.NoLimit := e0.mod.nolimit.keeps fun b o e => (e0.bs b o e).1
  refine codeAny_call_generator hr.depth (KX _ _ lk) rfl Sc.co Sc.gen rfl (PySem.W.codeRec_of KX hcode) (hbd _ _ _ _ ?_)
  refine wpAny_newFunctionEnv_cells Sc.kind (fun ⟨n, v⟩ hy => ?_) fun env he s1 x1 => ?_
  · rcases Sc.par n (List.of_mem_zip hy).1 with q | q
    · exact .inl q
    · exact .inr ⟨q, PySem.W.cellsFrom_some _ _ _ (.inl q)⟩
  subst he
  have kept1 : ∀ b o, s.heap.get? b = some o → s1.heap.get? b = some o := x1.toInCall.keep
  have lim1 : s1.heap.NoLimit := lim.keeps kept1
  refine ⟨lim1, ?_⟩
  obtain ⟨h1, tk, es1, _⟩ := x1.done
  have os1 : s1.os = s.os := by rw [es1]
  have gens1 : s1.gens = s.gens := by rw [es1]
  have above1 : s.heap.objs.size < s1.heap.objs.size := x1.toInCall.ns.lt
  have main : ∀ (go : Obj) (nm qn : Value) (tk2 : Nat), go.cls = .type "generator" → go.data = .fields #[.int s1.gens.size 0, nm, qn] → go.slots = #[] → (∀ h : Heap, (h.push go).get? h.objs.size = some go) →
      Made P w (k + 1) outer H s (fun ys H' => Ex H H' ∧ RpAll (hid C H') ys out) (.ref s1.heap.objs.size) { s1 with gens := s1.gens.push (.fresh (.func (defBody st) (envOfC qual (defScope st) s.heap.objs.size f cdv))), toks := tk2, heap := s1.heap.push go } := by
    intro go nm qn tk2 hgc hgd hgs hgp
    have isg : ∀ h : Heap, h.get? s1.heap.objs.size = some go → h.IsGen s1.heap.objs.size s1.gens.size := fun h e => ⟨go, nm, qn, e, hgc, hgd, hgs⟩
    refine ⟨s1.heap.objs.size, s1.gens.size, _, rfl, Nat.le_of_lt above1, by show _ < (s1.heap.push _).objs.size; rw [Heap.size_push]; omega, isg _ (hgp _), Array.getElem?_push_size .., os1, AllBare.push (by rw [gens1]; exact e0.bare) rfl, lim1.keeps fun b o e => Heap.get?_push_of_some _ e, fun b o e => Heap.get?_push_of_some _ (kept1 b o e), ?_⟩
    intro Aw S Cs s2 hrw hfr hS hCs hk2 hSo hos hba
    obtain ⟨cS, eS⟩ := hSo
    have hS1 : s1.heap.objs.size < S := by
      have : (s1.heap.push go).objs.size ≤ S := hS
      rw [Heap.size_push] at this; omega
    have hCs1 : ∀ b ∈ Cs, s1.heap.objs.size < b := fun b hb => by
      have : (s1.heap.push go).objs.size ≤ b := (hCs b hb).1
      rw [Heap.size_push] at this; omega
    have hSC : ∀ b ∈ S :: Cs, s1.heap.objs.size < b := fun b hb => (List.mem_cons.mp hb).elim (fun e => e ▸ hS1) (hCs1 b)
    have e0w : Env0 P w K mg base Aw outer s H := ⟨hfr, e0.mod, e0.bs, e0.bsz, e0.funs, e0.frf, e0.hok, e0.bare⟩
    have I1 : Inv (gcxOf P w K mg base N qual (defScope st) f cdv Aw outer s H E0 []) [] (L2.start N vs) H s1 := inv_startG Sc hrw.hd e0w hl r x1
    have kept2 : ∀ b o, s1.heap.get? b = some o → s2.heap.get? b = some o := fun b o e => hk2 b o (Heap.get?_push_of_some _ e)
    have I2 := I1.call' (ch := []) (hos.trans os1.symm) (Un.kept kept2) (I1.hok.kept kept2) hba fun b z => by cases z
    have ego : s2.heap.get? s1.heap.objs.size = some go := hk2 s1.heap.objs.size go (hgp _)
    have young : ∀ b, s1.heap.objs.size ≤ b → H b = none ∧ b ≠ s.heap.objs.size ∧ b ∉ frs outer ∧ s.heap.objs.size ≤ b ∧ ∀ y c, (cellsFrom (s.heap.objs.size + 1) (defScope st).names []).lookup y = some c → c ≠ b := fun b hb => by
      refine ⟨I1.hok.fresh hb, by omega, I1.nofs hb, by omega, fun y c e z => ?_⟩
      obtain ⟨v, ob, ho, _⟩ := I1.cell y c e
      have lt := Heap.lt_size ho
      rw [z] at lt
      exact absurd (Nat.lt_of_lt_of_le lt hb) (Nat.lt_irrefl _)
    have has : ∀ b ∈ S :: Cs, ∃ o, s2.heap.get? b = some o ∧ ∀ v, o.data ≠ .cell v := fun b hb => by
      rcases List.mem_cons.mp hb with rfl | hb
      · exact ⟨_, eS, fun v q => by cases q⟩
      · exact (hCs b hb).2
    have I3 : Inv (gcxOf P w K mg base N qual (defScope st) f cdv Aw outer s H E0 [(s1.heap.objs.size, go)]) (pinsAt (S :: Cs) s2.heap ++ []) (L2.start N vs) H s2 := by
      refine Inv.pinnedG I2 fun p hp => ?_
      rcases List.mem_append.mp hp with z | z
      · rw [List.mem_singleton.mp z]
        obtain ⟨y1, y2, y3, _, _⟩ := young s1.heap.objs.size (Nat.le_refl _)
        exact ⟨ego, y1, y2, y3, fun v q => by rw [hgd] at q; cases q⟩
      · rw [List.append_nil] at z
        obtain ⟨hb, e⟩ := of_pinsAt z
        obtain ⟨y1, y2, y3, _, _⟩ := young p.1 (Nat.le_of_lt (hSC _ hb))
        obtain ⟨o, e', nd⟩ := has _ hb
        rw [e] at e'
        cases e'
        exact ⟨e, y1, y2, y3, nd⟩
    have far : ∀ b ∈ S :: Cs, Far (gX P w K mg base N qual (defScope st) f cdv Aw outer s H [(s1.heap.objs.size, go)]) b := fun b hb => by
      obtain ⟨_, y2, _, y4, y5⟩ := young b (Nat.le_of_lt (hSC _ hb))
      refine ⟨y4, y2, y5, fun p hp e => ?_⟩
      rw [List.mem_singleton.mp hp] at e
      have := hSC b hb
      rw [← e] at this
      exact Nat.lt_irrefl _ this
    have isgen : ∀ {s₀ s' : Shared} {ip : List (Addr × Obj)} {ys : List V} {σ' : L2.St} {H' : Hp}, Rn (gX P w K mg base N qual (defScope st) f cdv Aw outer s H [(s1.heap.objs.size, go)]) S Cs s₀ ip ys σ' H' s' → s'.heap.IsGen s1.heap.objs.size s1.gens.size := fun h =>
      isg _ (h.inv.pin (s1.heap.objs.size, go) (List.mem_append_left _ (List.mem_singleton.mpr rfl))).1
    have SS0 : Sit H C C H (L2.start N vs) (es0 N ds) := sit_start dm rp (by rw [← rp.len, hl]; exact hpl)
    have hzo := hz ds out hR
    refine seg_imp (R := Rw (gX P w K mg base N qual (defScope st) f cdv Aw outer s H [(s1.heap.objs.size, go)]) S Cs fun ys H' => Ex H H' ∧ RpAll (hid C H') ys out)
      (Y := Yw (gX P w K mg base N qual (defScope st) f cdv Aw outer s H [(s1.heap.objs.size, go)]) S Cs sizeLine) (fun n s₀ r' s' q => ?_) (fun n s₀ v s' kap kap' hkk q => ?_) sizeLine ?_
    · obtain ⟨hr', ys, ip, σ', H', hRn, hQ⟩ := q
      obtain ⟨acc, cc, ra, ea⟩ := hRn.lst
      refine .inl ⟨.inl hr', H', ys, acc, cc, hRn.inv.os, hRn.inv.bare, hRn.inv.base, hRn.inv.hok, fun b hb => ⟨?_, hRn.kept b hb⟩, hRn.kept S List.mem_cons_self _ ea, ra, hQ⟩
      obtain ⟨_, _, _, n, _⟩ := hRn.pin hb
      exact n
    · obtain ⟨ys, xx, ip, σ', H', hn, rx, hRn, hk⟩ := q
      obtain ⟨acc, cc, ra, ea⟩ := hRn.lst
      have hsz : acc.size = ys.length := by
        have e1 := ra.length
        have e2 : acc.toList.length = acc.size := by simp
        omega
      exact ⟨hRn.inv.os, hRn.inv.bare, hRn.inv.unwish.nolimit, isgen hRn, ⟨acc, cc, hRn.kept S List.mem_cons_self _ ea, by rw [hsz]; exact hn⟩, hRn.kept, fun s'' z => hkk _ _ (hk s'' z)⟩
    · rw [hb]
      refine seg_gen (X := gX P w K mg base N qual (defScope st) f cdv Aw outer s H [(s1.heap.objs.size, go)]) (i := i) (σ := L2.start N vs) (H := H) rfl rfl over_func (pg_one (by exact Sc.nd) hi hyl) (List.getElem?_eq_some_iff.mp hi).1 (pe_var hi (.inl hyl) hd hcd) Sc.co (hin _ _) (hfs _) (I3.wish _) eS
        (fun b hb => by obtain ⟨o, e, _⟩ := has b hb; exact ⟨o, e⟩) far ?_
      refine body cdv Aw outer s H _ ds out (hrw.deeper _) hR H C C _ H _ SS0 ⟨fun O1 H1 σ1 es1 S1 n1 => ?_, fun _ _ _ _ _ _ _ _ n => n.elim, fun _ _ _ _ _ n => n.elim, fun _ _ _ _ _ n => n.elim⟩
      refine n1 H C O1 σ1 H1 _ S1 ⟨fun O2 H2 σ2 es2 S2 n2 => ?_, fun _ _ _ _ _ _ _ _ n => n.elim, fun _ _ _ _ _ n => n.elim, fun _ _ _ _ _ n => n.elim⟩
      refine n2 H C O2 σ2 H2 S2 _ fun p xs H3 h0 e3 h3 r3 => ⟨p, rfl, ⟨xs, SqL.of h3⟩, p, xs, rfl, SqL.of h3, ?_, S2.base.trans e3, ?_⟩
      · rw [r3.len]; exact Nat.le_trans hzo (by decide)
      · refine r3.mono (hid_anti fun a o _ c => .inl (S2.sub a c))
  exact main _ _ _ _ rfl rfl rfl fun h => Heap.get?_push_size _ rfl
end
end PcW
set_option Elab.async false
set_option linter.all false
set_option maxRecDepth 100000
set_option maxHeartbeats 4000000
/-! The consumers: list(g), [v for v in g]. -/
namespace PcW
open PySem PySem.Spec PyProof.Rows L2 PcLin GenW
structure Gc (P : Program) (w : World) (K : PySem.W.Frag) (mg : Str → Option Value) (base : Heap) (k : Nat) (x : Str) (ps : List Str) (R : List PyData → List PyData → Prop) : Prop where
  ex : ∃ (f : Addr) (fd : FuncData), GenOk P w K mg base k f fd ps R ∧ mg x = some (.ref f) ∧ PySem.W.keepIn K (.ref f) = true ∧ Binds K fd ps []
section
variable {X : Cx} {es : List Sl} {e : Expr} {l : List Expr} {ds out : List PyData} {pos cpos p : Pos} {k : Nat} {x : Str} {ps : List Str} {R : List PyData → List PyData → Prop}
/-- the call: a generator that has not begun -/
theorem made_call {B : Hp} {C O : Addr → Prop} {σ : L2.St} {H : Hp} {pins : List (Addr × Obj)} {s : Shared} (G : Gc X.prog X.w X.K X.mg X.base k x ps R) (hr : Room k X.A) (ha : PVs X es (e :: l) ds) (hR : R ds out) (S : Sit B C O H σ es) (I : Inv X pins σ H s) (hg : Gl X x)
    (hdb : (x == ("__debug__" : Str)) = false) (he : starEach (e :: l) X.env = (false, eval e X.env) :: starEach l X.env) (hpl : (backTo cpos (starEach l X.env)).any (·.1) = false) :
    wpAny (model X.prog X.w) X.A (eval (.Call (.Name x p) (e :: l) [] cpos) X.env) (fun u s' => ∃ H1 sc, Inv X pins σ H1 sc ∧ Ex H H1 ∧ Made X.prog X.w k X.stack H1 sc (fun ys H' => Ex H1 H' ∧ RpAll (hid O H') ys out) u s') X.xe s := by
  obtain ⟨f, fd, F, hm, hk, hb⟩ := G.ex
  refine wpAny_Call_Name_kw (ld_glob I hg hm ?_ hdb)
  refine PySem.W.callWith_K (h₀ := X.base) I.ok.mod.kin hk (thn (ha B C O σ H S (fun vs H1 => Ex H H1 ∧ RpAll (hid O H1) vs ds) (fun vs H1 e1 r1 => ⟨e1, r1⟩) cpos pins s I) fun us s1 ⟨vs, H1, I1, r, e1, r1⟩ => ⟨I1.kIn, ?_⟩) he hpl
  have hl : (us ++ []).length = ps.length := by rw [List.append_nil, ← r.length, r1.len]; exact F.len ds out hR
  have bt := hb s1 us I1.kIn hl
  rw [List.append_nil] at bt
  refine wpAny_call (codeAny_mono (F.run X.A X.stack s1 H1 ⟨us, []⟩ us vs O ds out hr I1.env0 bt r (S.mono e1).dom r1 hR) fun r s' hq => ?_)
  cases r with
  | error e => exact hq.elim
  | ok fl =>
    cases fl with
    | ret u => exact ⟨H1, s1, I1, e1, hq⟩
    | next => exact hq.elim
    | brk => exact hq.elim
    | cont => exact hq.elim
/-- list(g) -/
theorem pf_listG {k : Nat} (hm : X.mg "list" = none) (G : Gc X.prog X.w X.K X.mg X.base k x ps R) (hr : Room (k + 3) X.A) (ha : PVs X es (e :: l) ds) (hR : R ds out) (hz : out.length ≤ 100000) (hg : Gl X x := by rfl) (hgl : Gl X "list" := by rfl) {lp : Pos}
    (hdb : (x == ("__debug__" : Str)) = false := by decide) (he : starEach (e :: l) X.env = (false, eval e X.env) :: starEach l X.env := by rfl) (hpl : (backTo cpos (starEach l X.env)).any (·.1) = false := by rfl)
    (he2 : starEach [.Call (.Name x p) (e :: l) [] cpos] X.env = (false, eval (.Call (.Name x p) (e :: l) [] cpos) X.env) :: starEach [] X.env := by rfl) : PF X es (.Call (.Name "list" lp) [.Call (.Name x p) (e :: l) [] cpos] [] pos) out := fun B C O σ H S Q q pins s I => by
  refine wpAny_Call_Name_kw (ld_blt I hgl hm (u := .type "list") (by decide +kernel) ?_ (by decide) (by decide))
  refine PyProof.Rows.callWith_type1 ?_ he2 rfl
  rw [he2]
  show wpAny _ _ (spliced ((false, eval (.Call (.Name x p) (e :: l) [] cpos) X.env) :: backTo pos (starEach [] X.env))) _ _ s
  refine Calls.spliced_cons (thn (made_call G (hr.mono (by omega)) ha hR S I hg hdb he hpl) fun u s1 ⟨H1, sc, I1, e1, hM⟩ => ?_)
  refine Calls.spliced_nil ?_
  have gm := Made.gm (E := E0) (fun ys H' h => by rw [h.2.len]; exact Nat.le_trans hz (by decide)) hM
  have hsz : sc.heap.objs.size ≤ s1.heap.objs.size := by
    obtain ⟨a, g, c, _, h1, h2, _⟩ := gm
    exact Nat.le_trans h1 (Nat.le_of_lt h2)
  refine call_list_new hr I1.ok.frames gm (fun D s' acc c H' ys q0 q1 q2 hl q3 q4 q5 q6 q7 q8 => ?_) fun e' s' g hc => ?_
  · obtain ⟨e2, r2⟩ := q8
    have I2 := I1.drained (Nat.le_trans hsz q0) hl q1 q2 .nil q3 q4 q5 q6 q7
    have e3 : Ex H' (upd H' D (.lst ys)) := Ex.new q7
    exact ⟨.ref D, _, I2, rfl, q D ys _ (fresh_back (e1.trans e2) q7) ((e1.trans e2).trans e3) upd_same (r2.mono (hid_new q7 e3))⟩
  · obtain ⟨_, _, _, _, _, _, _, _, _, _, _, _, z⟩ := hc
    exact z.elim

/-- [v for v in g] -/
theorem pf_lcG {y : Str} {p1 p2 : Pos} {scope : Scope} (G : Gc X.prog X.w X.K X.mg X.base k x ps R) (hr : Room (k + 1) X.A) (ha : PVs X es (e :: l) ds) (hR : R ds out) (hz : out.length ≤ 100000)
    (hkd : scope.kind = .function) (hnm : ∀ z ∈ scope.names, z.2 = .local ∧ scope.names.lookup z.1 = some .local) (hyl : scope.names.lookup y = some .local)
    (hd : (y == ("__debug__" : Str)) = false) (hg : Gl X x := by rfl) (hdb : (x == ("__debug__" : Str)) = false := by decide) (he : starEach (e :: l) X.env = (false, eval e X.env) :: starEach l X.env := by rfl) (hpl : (backTo cpos (starEach l X.env)).any (·.1) = false := by rfl)
    (hs : ∀ v, foldedSetIterable (.Call (.Name x p) (e :: l) [] cpos) X.env v = pure v := by intro _; rfl) : PF X es (.ListComp (.Name y p2) [⟨.Name y p1, .Call (.Name x p) (e :: l) [] cpos, [], 0⟩] scope pos) out := fun B C O σ H S Q q pins s I => by
  rw [eval_ListComp]
  refine wpAny_comprehension_free (use := none) rfl hs (closure_ok fun z hz' e => by rw [(hnm z hz').1] at e; cases e) hkd (fun z hz' _ => (hnm z hz').2)
    (thn (made_call G (hr.mono (by omega)) ha hR S I hg hdb he hpl) fun u s1 ⟨H1, sc, I1, e1, hM⟩ => ?_)
  obtain ⟨a, g, c, rfl, ha1, ha2, hgen, hgs, hos, hba, hlim, hkp, go⟩ := hM
  refine wpAny_pyIter_gen hgen ?_
  refine wpAny_newObj_type (newEnv_comp ?_) (by show 0 ≤ sizeLine; decide)
  generalize hD : s1.heap.objs.size = D
  generalize hs3 : ({ s1 with heap := s1.heap.push { cls := .type "list", data := .seq ([] : List Value).toArray } } : Shared) = s3
  have h3 : s3.heap = s1.heap.push { cls := .type "list", data := .seq ([] : List Value).toArray } := by rw [← hs3]
  have z3 : s3.heap.objs.size = D + 1 := by rw [h3, Heap.size_push, hD]
  show codeAny _ _ (.compStart (.ListComp (.Name y p2) [⟨.Name y p1, .Call (.Name x p) (e :: l) [] cpos, [], 0⟩] scope pos) 0 (.ref a) (.ref D) (compEnvC scope (cellsFrom (s3.heap.objs.size + 1) scope.names (cloFrom X.env.cells scope.names [])) s3.heap.objs.size X.env)) (compPost (model X.prog X.w) X.A X.xe none (EP X pins σ Q) (.ref D) s3.heap.objs.size) { s3 with heap := pushCells (s3.heap.push { cls := .type "dict", data := .dict #[] }) scope.names }
  generalize hL : s3.heap.objs.size = L at z3
  generalize hce : compEnvC scope (cellsFrom (L + 1) scope.names (cloFrom X.env.cells scope.names [])) L X.env = ce
  have cL : ce.locals = L := by rw [← hce]; rfl
  have cK : ce.scope.kind = .function := by rw [← hce]; exact hkd
  have cY : ce.kindOf y = some .local := by rw [← hce]; exact lookup_relabel_local hyl
  have cP : (ce.scope.kind == .class || (ce.scope.kind == .module && ce.locals != ce.globals)) = false := by rw [cK]; rfl
  generalize hs4 : ({ s3 with heap := pushCells (s3.heap.push { cls := .type "dict", data := .dict #[] }) scope.names } : Shared) = s4
  have kp3 : ∀ b o, s1.heap.get? b = some o → s3.heap.get? b = some o := fun b o e => by rw [h3]; exact Heap.get?_push_of_some _ e
  have kp4' : ∀ b o, s3.heap.get? b = some o → s4.heap.get? b = some o := fun b o e => by rw [← hs4]; exact pushCells_keeps _ _ _ _ (Heap.get?_push_of_some _ e)
  have kp4 : ∀ b o, s1.heap.get? b = some o → s4.heap.get? b = some o := fun b o e => kp4' b o (kp3 b o e)
  have os4 : s4.os = s1.os := by rw [← hs4, ← hs3]
  have gens4 : s4.gens = s1.gens := by rw [← hs4, ← hs3]
  have hD4 : s4.heap.get? D = some (lstObj #[] 0) := kp4' _ _ (by rw [h3, ← hD]; exact Heap.get?_push_size _ rfl)
  have hL4o : s4.heap.get? L = some { cls := .type "dict", data := .dict #[] } := by
    rw [← hs4]
    refine pushCells_keeps _ _ _ _ ?_
    rw [← hL]
    exact Heap.get?_push_size _ rfl
  have hL4 : s4.heap.Ns L (fun _ => none) := ⟨_, #[], 0, hL4o, rfl, fun i hi => by simp at hi, fun _ => rfl⟩
  have laD : Nat.lt a D := by rw [← hD]; exact ha2
  have hLD : L = Nat.succ D := z3
  have laL : Nat.lt a L := by rw [hLD]; exact Nat.lt_succ_of_lt laD
  have haD : a ≠ D := Nat.ne_of_lt laD
  have haL : a ≠ L := Nat.ne_of_lt laL
  have hDL : D ≠ L := by rw [hLD]; exact Nat.ne_of_lt (Nat.lt_succ_self D)
  have hcl : Nat.lt cStatics s1.heap.objs.size := let ⟨_, hn, _⟩ := hlim; hn.lt
  rw [hD] at hcl
  have hcD : cStatics ≠ D := Nat.ne_of_lt hcl
  have hcL : cStatics ≠ L := by rw [hLD]; exact Nat.ne_of_lt (Nat.lt_succ_of_lt hcl)
  have scD : Nat.le sc.heap.objs.size D := Nat.le_trans ha1 (Nat.le_of_lt laD)
  have scL : Nat.le sc.heap.objs.size L := Nat.le_trans ha1 (Nat.le_of_lt laL)
  have nsObj : ∀ {h : Heap} {m : Str → Option Value}, h.Ns L m → ∃ o, h.get? L = some o ∧ ∀ u, o.data ≠ .cell u := fun ⟨o, es, ep, ho, hd, _⟩ => ⟨o, ho, fun u q => by rw [hd] at q; cases q⟩
  have loop : codeAny (model X.prog X.w) X.A (.compLoop (.ListComp (.Name y p2) [⟨.Name y p1, .Call (.Name x p) (e :: l) [] cpos, [], 0⟩] scope pos) 0 (.ref a) (.ref D) ce) (compPost (model X.prog X.w) X.A X.xe none (EP X pins σ Q) (.ref D) L) s4 := by
    refine codeAny_compLoop_tests (fun n s' => s'.heap.IsGen a g ∧ s'.heap.NoLimit ∧ (∃ acc c, s'.heap.get? D = some (lstObj acc c) ∧ n + acc.size = sizeLine) ∧ (∃ m, s'.heap.Ns L m) ∧
      ∃ gs, s'.gens[g]? = some gs ∧ gs.Goes (model X.prog X.w) X.A.in1 (RE X.prog X.w X.stack H1 sc D [L] (fun ys H' => Ex H1 H' ∧ RpAll (hid O H') ys out)) (YE sc D [L] a g) n (.send .none) (s'.setGen g .running)) ?_ sizeLine ?_
    · rintro n s5 ⟨hg5, hl5, ⟨acc, c5, hD5, hn5⟩, ⟨m5, hL5⟩, gs, hgs5, hgo5⟩
      have hgl : g < s5.gens.size := (Array.getElem?_eq_some_iff.mp hgs5).1
      refine wpAny_gsz (n := g + 1) hgl (next_genG hr.hd hl5 (hr.depth) hg5 hgs5 hgo5 (fun v t gs' hbare hv => ?_) (fun t hF h' hk => ?_) fun e' t z => z.elim)
      · intro hsz
        obtain ⟨ost, hbt, hlt, hgt, ⟨acc', c', hDt, hnt⟩, hkt, hk⟩ := hv
        have hDt2 : t.heap.get? D = some (lstObj acc c5) := hkt D List.mem_cons_self _ hD5
        have hLt : t.heap.Ns L m5 := by
          obtain ⟨o, es, ep, ho, r⟩ := hL5
          exact ⟨o, es, ep, hkt L (List.mem_cons_of_mem _ List.mem_cons_self) _ ho, r⟩
        have eacc : acc' = acc ∧ c' = c5 := by
          rw [hDt] at hDt2
          cases hDt2
          exact ⟨rfl, rfl⟩
        obtain ⟨rfl, rfl⟩ := eacc
        refine wpAny_assign_Name (wpAny_storeName_local (m := m5) cY (by rw [cL]; exact hLt) (fun h6 hL6 sb6 => ?_) cP)
        rw [cL] at hL6 sb6
        refine wpAny_tests_nil ?_
        rw [if_pos rfl]
        refine wpAny_Name (wpAny_loadName_local cK cY (by rw [cL]; exact hL6) (if_pos rfl) ?_) hd
        have hD6 : h6.get? D = some (lstObj acc' c') := (sb6.2 D hDL).trans hDt
        refine append_at (hsz := by omega) hD6 fun h7 sb7 hD7 => ?_
        have k7 : ∀ b o, b ≠ D → b ≠ L → t.heap.get? b = some o → h7.get? b = some o := fun b o c1 c2 e => (sb7.2 b c1).trans ((sb6.2 b c2).trans e)
        have hL7 : h7.Ns L (fun z => if z = y then some v else m5 z) := hL6.sameBut sb7 (Ne.symm hDL)
        have hsz1 : g < t.gens.size := by
          have q1 : (t.setGen g gs').gens.size = t.gens.size := setGen_size _ _ _
          have q2 : g + 1 ≤ (t.setGen g gs').gens.size := hsz
          omega
        have wk : ∀ t' : Shared, t'.os = t.os → AllBare t'.gens → t'.heap = h7 → Wk D [L] v t t' := fun t' o1 o2 o3 => ⟨o1, o2, fun b o hb e => by
            rw [o3]
            refine k7 b o (fun z => hb (by rw [z]; exact List.mem_cons_self)) (fun z => hb (by rw [z]; exact List.mem_cons_of_mem _ List.mem_cons_self)) e, fun b hb => by
            rw [List.mem_singleton.mp hb, o3]
            exact nsObj hL7, fun acc2 c2 e => by
            rw [hDt] at e
            cases e
            rw [o3]
            exact ⟨_, hD7⟩⟩
        cases n with
        | zero => exact (hk { t with heap := h7 } (wk _ rfl hbt rfl)).elim
        | succ n =>
          refine ⟨n, Nat.lt_succ_self n, ?_, ?_, ⟨_, _, hD7, ?_⟩, ⟨_, hL7⟩, gs', setGen_at hsz1, ?_⟩
          · obtain ⟨o, nm, qn, ho, r⟩ := hgt
            exact ⟨o, nm, qn, k7 a o haD haL ho, r⟩
          · obtain ⟨mc, hns, hnn⟩ := hlt
            exact ⟨mc, hns.at' fun o e => k7 _ o hcD hcL e, hnn⟩
          · rw [Array.size_push]; omega
          · exact hk _ (wk _ rfl (allBare_setGen (s := { t.setGen g gs' with heap := h7 }) (allBare_setGen hbt hbare) rfl) rfl)
      · intro hsz
        obtain ⟨H', ys, acc', c', ost, hbt, un, hok, hkt, hDt, hv, e2, r2⟩ := hF
        have hDn : H' D = none := (hkt D List.mem_cons_self).1
        have hLn : H' L = none := (hkt L (List.mem_cons_of_mem _ List.mem_cons_self)).1
        have hLt : h'.Ns L m5 := by
          obtain ⟨o, es, ep, ho, r⟩ := hL5
          exact ⟨o, es, ep, hk _ _ ((hkt L (List.mem_cons_of_mem _ List.mem_cons_self)).2 _ ho), r⟩
        have hlen : ys.length ≤ sizeLine := by rw [r2.len]; exact Nat.le_trans hz (by decide)
        have I2 : Inv X pins σ (upd H' D (.lst ys)) { t.setGen g .finished with heap := h' } := I1.drained scD hlen (hk _ _ hDt) hv .nil ost (allBare_setGen hbt rfl) (un.trans (Un.kept hk)) (hok.kept hk) hDn
        have e3 : Ex H' (upd H' D (.lst ys)) := Ex.new hDn
        obtain ⟨f0, f1, f2, f3, f4, f5⟩ := I1.fpOk (b := L) (H' := upd H' D (.lst ys)) scL (by rw [upd_ne (Ne.symm hDL)]; exact hLn)
        exact ⟨m5, hLt, fun h'' sb => ⟨.ref D, _, I2.turned (t' := t.toks) (fun b o hb e => (sb.2 b hb).trans e) f0 f1 f3 f4 f5, rfl, q D ys _ (fresh_back (e1.trans e2) hDn) ((e1.trans e2).trans e3) upd_same (r2.mono (hid_new hDn e3))⟩⟩
    · refine ⟨hgen.keeps kp4, hlim.keeps kp4, ⟨#[], 0, hD4, rfl⟩, ⟨_, hL4⟩, .fresh c, by rw [gens4]; exact hgs, rfl, ?_⟩
      refine go X.A.in1 D [L] (s4.setGen g .running) ⟨hr.hd, ?_, ?_⟩ I1.ok.frames (Nat.le_of_eq hD) (fun b hb => ?_) kp4 ⟨0, hD4⟩ (os4.trans hos) (allBare_setGen (by rw [gens4]; exact hba) rfl)
      · have := hr.dp
        show X.A.depth + 3 * k + 5 < _
        omega
      · have := hr.un
        show X.A.units + 1 + 16 * k + 200 < _
        omega
      · rw [List.mem_singleton.mp hb]
        exact ⟨by rw [hD, hLD]; exact Nat.le_succ D, nsObj hL4⟩
  exact codeAny_compStart_list loop (wpAny_pyIter_gen (hgen.keeps kp4) loop)
end
end PcW
set_option Elab.async false
set_option linter.all false
set_option maxRecDepth 100000
set_option maxHeartbeats 4000000
/-! sorted of rows; all_rows. -/
namespace PcW
open PySem PySem.Spec PyProof.Rows L2 PcLin
theorem le_rows : PySem.W.dataLe false dRow = leR := by
  funext a b
  rw [PySem.W.dataLe_eq]
  show (!PySem.W.dataLt (.tuple (b.map .int)) (.tuple (a.map .int))) = decide (a ≤ b)
  rw [PySem.W.dataLt_tuple]
  show (!PySem.W.rowLt (b.map .int) (a.map .int)) = decide (a ≤ b)
  rw [PySem.W.dataLt_ints]
  by_cases h : b < a
  · rw [decide_eq_true h, decide_eq_false fun r => List.not_lt.mpr r h]; rfl
  · rw [decide_eq_false h, decide_eq_true (List.not_lt.mp h)]; rfl
/-- what a value stands for -/
def Std (H : Hp) (v : Value) (b : IRow) : Prop := ∃ x, RelV x v ∧ Rp H x (dRow b)
theorem std_of {H : Hp} : ∀ {rows : List IRow} {xs : List V} {vs : List Value}, RpAll H xs (rows.map dRow) → Vals xs vs → PySem.W.EachIs (Std H) vs rows
  | [], _, _, r, v => by
    cases r
    cases v
    exact .nil
  | b :: rows, _, _, r, v => by
    cases r with
    | cons r1 r2 =>
      cases v with
      | cons v1 v2 => exact .cons ⟨_, v1, r1⟩ (std_of r2 v2)
theorem of_std {H : Hp} : ∀ {rows : List IRow} {vs : List Value}, PySem.W.EachIs (Std H) vs rows → ∃ xs, Vals xs vs ∧ RpAll H xs (rows.map dRow)
  | _, _, .nil => ⟨[], .nil, .nil⟩
  | _, _, .cons ⟨x, r1, r2⟩ t => by
    obtain ⟨xs, h1, h2⟩ := of_std t
    exact ⟨x :: xs, .cons r1 h1, .cons r2 h2⟩
theorem each_to {R S : Value → IRow → Prop} {vs : List Value} {rows : List IRow} (e : PySem.W.EachIs R vs rows) (h : ∀ v b, R v b → S v b) : PySem.W.EachIs S vs rows := by
  induction e with
  | nil => exact .nil
  | cons a _ ih => exact .cons (h _ _ a) ih
def rSortR (K : PySem.W.Frag) : List V → Hp → VK → Prop := fun vs H Q => ∃ (a : Addr) (xs : List V) (rows : List IRow) (H0 : Hp), vs = [.ref a] ∧ H a = some (.lst xs) ∧ Ex H0 H ∧ RpAll H0 xs (rows.map dRow) ∧ (rows.length ≤ 1 ∨ ∀ r ∈ rows, r ≠ []) ∧
  ∀ ys p, RpAll H0 ys ((sortM rows).map dRow) → H p = none → Q (.ref p) (upd H p (.lst ys))
theorem cr_sortR {X : Cx} (hu : X.A.units + 64 < cLine) : CallR X (.builtin "sorted") (rSortR X.K) := by
  intro pins s σ H vs us Q I r h
  obtain ⟨a, xs, rows, H0, rfl, hs, ex, rp, hk, q⟩ := h
  obtain ⟨its, rv, hl, hz⟩ := I.list (SqL.of hs)
  obtain ⟨u, rfl, ru⟩ := vals1 r
  obtain rfl : u = Value.ref a := ru
  have hlen : rows.length = xs.length := by rw [rp.len, List.length_map]
  have hlv : xs.length = its.length := rv.length
  have std := std_of rp rv
  have fin : ∀ (out : List Value) (h' : Heap) (d : Addr), PySem.W.EachIs (Std H0) out (sortM rows) → out.length = its.length → (∀ b o, s.heap.get? b = some o → h'.get? b = some o) → s.heap.objs.size ≤ d → (∃ n, h'.get? d = some (seqObj "list" out.toArray n)) → EP X pins σ Q (.ref d) { s with heap := h' } := fun out h' d e hol kp hd hn => by
    obtain ⟨ys, hv, hr⟩ := of_std e
    obtain ⟨n, hn⟩ := hn
    exact ⟨.ref d, upd H d (.lst ys), I.laid (t' := s.toks) kp hd ⟨by rw [hv.length, hol, ← hlv]; exact hz, out, n, hv, hn⟩, rfl, q ys d hr (I.hok.fresh hd)⟩
  rcases hk with h1 | hne
  · refine SrtO.sorted_ord (ltv := fun _ _ => false) ⟨(fun _ _ h => by cases h), fun _ _ _ _ _ => rfl⟩ hl.isList (by rw [← hlv]; exact hz) (fun h2 => absurd h2 (by omega)) fun out _ hb => ?_
    have hp := hb.perm
    have e1 : out = its := by
      have l1 : its.length ≤ 1 := by omega
      cases its with
      | nil => exact hp.eq_nil
      | cons x t =>
        cases t with
        | nil => exact List.perm_singleton.mp hp
        | cons _ _ => simp at l1
    rw [e1]
    have e2 : sortM rows = rows := by
      have hp2 := sort_perm rows
      cases rows with
      | nil => exact hp2.eq_nil
      | cons x t =>
        cases t with
        | nil => exact List.perm_singleton.mp hp2
        | cons _ _ => simp at h1
    exact fin its _ _ (by rw [e2]; exact std) rfl (fun b o e => sortedAll_old e) (Nat.le_succ _) (sortedAll_at s.heap its its.toArray)
  · refine PySem.W.sorted_data (enc := dRow) (R := Std H0) hl.isList std (each_to std fun v b ⟨x, r1, r2⟩ => Dp.reads I (dRow b) x v ((r2.mono ex).dp) r1) (PySem.W.AllAlike.of fun b b' => ?_) (.inl fun d hd => ?_) (by rw [hlen]; exact hz) (fun b _ => ?_) fun out ho eo => ?_
    · show PySem.W.alikeAll (b.map .int) (b'.map .int) = true
      exact PySem.W.alike_ints b b'
    · obtain ⟨b, hb, rfl⟩ := List.mem_map.mp hd
      cases b with
      | nil => exact absurd rfl (hne _ hb)
      | cons x t => exact ⟨.int x, t.map .int, rfl⟩
    · have : (dRow b).depth ≤ 1 := by
        show PyData.depth (.tuple (b.map .int)) ≤ 1
        rw [PyData.depth, PySem.W.depth_ints]
        omega
      omega
    · rw [le_rows] at eo
      exact fin out _ _ eo (by rw [ho, hlen, hlv]) (fun b o e => sortedAll_old e) (Nat.le_succ _) (sortedAll_at s.heap its out.toArray)
theorem pf_sorted {X : Cx} {es : List Sl} {e : Expr} {rows : List IRow} {p pos : Pos} (hm : X.mg "sorted" = none) (hu : X.A.units + 64 < cLine) (h : PL X es e (rows.map dRow)) (hk : rows.length ≤ 1 ∨ ∀ r ∈ rows, r ≠ []) (hg : Gl X "sorted" := by rfl)
    (he : starEach [e] X.env = (false, eval e X.env) :: starEach [] X.env := by rfl) (hpl : (backTo pos (starEach [] X.env)).any (·.1) = false := by rfl) : PF X es (.Call (.Name "sorted" p) [e] [] pos) ((sortM rows).map dRow) := fun B C O σ H S Q q =>
  wE_of (pe_callB (cr_sortR hu) hg hm (by decide +kernel) (pa_w [e]) (he := he) (hpl := hpl)) (wA_one (h B C O σ H S _ fun p xs H1 e1 h1 r => ⟨p, xs, rows, hid O H1, rfl, h1, hid_sub, r, hk, fun ys l ry hl => list_new (X := X) S e1 ry q l hl⟩) he)
end PcW
set_option Elab.async false
set_option linter.all false
set_option maxRecDepth 100000
set_option maxHeartbeats 4000000
/-! A tuple times a small int; comprehensions with two «for»s; all_rows. -/
namespace PcW
open PySem PySem.Spec PyProof.Rows L2 PcLin
theorem mul_none (l : Addr) (items : Array Value) (n : Nat) (dd : Option Addr) (sl : Array (Option Value)) (u : Tok) (c1 : (items.isEmpty || (0 : Int) == 1) = false) :
    Meets (Builtin.«tuple.__mul__» ⟨[.ref l, .int 0 u], []⟩) (fun _ R s => s.heap.get? l = some { cls := .type "tuple", dict := dd, data := .seq items n, slots := sl } ∧
      R (.ok (.ret (Value.ref s.heap.objs.size))) { s with heap := s.heap.push { cls := Value.type "tuple", data := Data.seq #[] }, toks := s.toks }) := .of_wp fun prog w A R ⟨hp, g, d, tk, os⟩ ⟨hl, h⟩ => by
  have f1 := AutoSeq1.idx_int
  have c0 : (decide ((0 : Int) < -(2 ^ 63)) || decide ((0 : Int) ≥ 2 ^ 63)) = false := by decide
  have c2 : (decide ((0 : Int) ≤ 0) || items.isEmpty) = true := by simp
  wp_walk using wpAny_loadPart' hl
  rw [if_neg (by rw [c1]; exact Bool.false_ne_true)]
  dsimp only
  rw [if_pos c2]
  wp_walk using wpAny_loadPart' hl
  exact ⟨_, rfl, h⟩
theorem mul_one (l : Addr) (items : Array Value) (n : Nat) (dd : Option Addr) (sl : Array (Option Value)) (u : Tok) :
    Meets (Builtin.«tuple.__mul__» ⟨[.ref l, .int 1 u], []⟩) (fun _ R s => s.heap.get? l = some { cls := .type "tuple", dict := dd, data := .seq items n, slots := sl } ∧
      R (.ok (.ret (Value.ref l))) s) := .of_wp fun prog w A R ⟨hp, g, d, tk, os⟩ ⟨hl, h⟩ => by
  have f1 := AutoSeq1.idx_int
  have c0 : (decide ((1 : Int) < -(2 ^ 63)) || decide ((1 : Int) ≥ 2 ^ 63)) = false := by decide
  have c1 : (items.isEmpty || (1 : Int) == 1) = true := by simp
  wp_walk using wpAny_loadPart' hl
  exact ⟨_, rfl, h⟩
def rMul01 (K : PySem.W.Frag) : R2 := fun x y H Q => ∃ l k xs, x = .ref l ∧ y = .int k ∧ SqT K H l xs ∧ xs ≠ [] ∧ ((k = 0 ∧ ∀ p, H p = none → Q (.ref p) (upd H p (.tup []))) ∨ (k = 1 ∧ Q (.ref l) H))
theorem op_mul01 {X : Cx} : OpR X (binaryOp .Mult) (rMul01 X.K) := by
  rintro pins s σ H x y v u Q I rx ry ⟨l, k, xs, rfl, rfl, hT, hne, hk⟩
  cases rx
  obtain ⟨t, rfl⟩ := ry
  obtain ⟨its, r, ⟨⟨cls, dd, data, sl⟩, ho, hc, n, hd⟩, hs⟩ := I.tuple hT
  simp only at hc hd
  subst hc hd
  have hi : its.toArray.isEmpty = false := by
    cases its with
    | nil => exact absurd (List.eq_nil_of_length_eq_zero (show xs.length = 0 from r.length)) hne
    | cons a b => rfl
  rcases hk with ⟨rfl, q⟩ | ⟨rfl, q⟩
  · refine wpAny_binaryOp_repeat_ref (T := "tuple") (U := "int") (by decide) ⟨_, ho, rfl⟩ (fun s' => typeIs_int s' 0 t) noFill_tuple_mul F.fills_int_mul F.slot_int_rmul repeat_tuple F.slot_int_index.lookup
      (call_meets F.slot_int_rmul (typeIs_int s 0 t) F.entry_int_rmul (F.args_int_rmul_2 _ _) (int_rmul_tuple 0 t l its.toArray n dd sl) ⟨ho, rfl, ⟨_, ho, rfl⟩, ?_⟩)
    refine call_meets F.slot_tuple_mul ⟨_, ho, rfl⟩ F.entry_tuple_mul (F.args_tuple_mul_2 _ _) (mul_none l its.toArray n dd sl t (by rw [hi]; rfl)) ⟨ho, ?_⟩
    exact ⟨.ref s.heap.objs.size, _, I.laid (t' := s.toks) (o := .tup []) (fun b ob e => Heap.get?_push_of_some _ e) (Nat.le_refl _) ⟨Nat.zero_le _, [], .nil, IsTup.new _ _⟩, rfl, q _ (I.hok.fresh (Nat.le_refl _))⟩
  · refine wpAny_binaryOp_repeat_ref (T := "tuple") (U := "int") (by decide) ⟨_, ho, rfl⟩ (fun s' => typeIs_int s' 1 t) noFill_tuple_mul F.fills_int_mul F.slot_int_rmul repeat_tuple F.slot_int_index.lookup
      (call_meets F.slot_int_rmul (typeIs_int s 1 t) F.entry_int_rmul (F.args_int_rmul_2 _ _) (int_rmul_tuple 1 t l its.toArray n dd sl) ⟨ho, rfl, ⟨_, ho, rfl⟩, ?_⟩)
    refine call_meets F.slot_tuple_mul ⟨_, ho, rfl⟩ F.entry_tuple_mul (F.args_tuple_mul_2 _ _) (mul_one l its.toArray n dd sl t) ⟨ho, ?_⟩
    exact ⟨.ref l, H, I, rfl, q⟩
theorem rp_zeros {H : Hp} {v : V} (h : Rp H v (.int 0)) : ∀ n : Nat, RpAll H (List.replicate n [v]).flatten ((zeroM n).map .int)
  | 0 => .nil
  | n + 1 => by
    unfold zeroM
    rw [List.replicate_succ, List.replicate_succ]
    exact .cons h (rp_zeros h n)
/-- (0,) * n -/
theorem pv_zeros {X : Cx} {es : List Sl} {a b : Expr} {pos : Pos} {n : Nat} (ha : PV X es a (.tuple [.int 0])) (hb : PV X es b (.int (n : Int))) (hn : n ≤ 1000) : PV X es (.BinOp a .Mult b pos) (dRow (zeroM n)) := by
  rcases (show n = 0 ∨ n = 1 ∨ 2 ≤ n by omega) with rfl | rfl | h2
  · refine pv_bin op_mul01 ha hb fun v1 v2 O H dm r1 r2 Q q => ?_
    obtain ⟨p, xs, rfl, h, r⟩ := rp_tup r1
    cases rp_int r2
    refine ⟨p, 0, xs, rfl, rfl, SqT.of (hid_sub _ _ h), (by rintro rfl; cases r), .inl ⟨rfl, fun l hl => q _ _ (Ex.new hl) (.tup (hid_at dm hl upd_same) .nil)⟩⟩
  · refine pv_bin op_mul01 ha hb fun v1 v2 O H dm r1 r2 Q q => ?_
    obtain ⟨p, xs, rfl, h, r⟩ := rp_tup r1
    cases rp_int r2
    exact ⟨p, 1, xs, rfl, rfl, SqT.of (hid_sub _ _ h), (by rintro rfl; cases r), .inr ⟨rfl, q _ H (Ex.refl H) (.tup h r)⟩⟩
  · refine pv_bin op_repT ha hb fun v1 v2 O H dm r1 r2 Q q => ?_
    obtain ⟨p, xs, rfl, h, r⟩ := rp_tup r1
    cases rp_int r2
    cases r with
    | cons ra rr =>
      cases rr
      refine ⟨p, n, _, rfl, rfl, SqT.of (hid_sub _ _ h), by simp, by omega, by omega, by simp, fun l hl => ?_⟩
      rw [Int.toNat_natCast]
      exact q _ _ (Ex.new hl) (.tup (hid_at dm hl upd_same) ((rp_zeros ra n).mono (hid_ex (Ex.new hl))))

/-! ### two «for»s -/
theorem Sit.poke {B : Hp} {C O : Addr → Prop} {H H' : Hp} {σ : L2.St} {es : List Sl} {D : Addr} {u : HO} (S : Sit B C O H σ es) (hno : ∀ e ∈ es, e.mine = false) (hO : O D) (hB : B D = none) (k : ∀ a o, a ≠ D → H a = some o → H' a = some o) (hD : H' D = some u) : Sit B C O H' σ es := by
  have ex : Ex (hid O H) (hid O H') := fun a o h => by
    obtain ⟨h1, h2⟩ := hid_some.mp h
    exact hid_some.mpr ⟨h1, k a o (fun z => h1 (by rw [z]; exact hO)) h2⟩
  refine ⟨fun a o h => k a o (fun z => by rw [z, hB] at h; cases h) (S.base a o h), S.sub, S.cdom, fun a h => ?_, S.fresh, S.len, fun i e h => ?_, S.dis⟩
  · by_cases c : a = D
    · exact ⟨u, by rw [c]; exact hD⟩
    · obtain ⟨o, w⟩ := S.dom a h
      exact ⟨o, k a o c w⟩
  · have hm := hno e (List.mem_of_getElem? h)
    have := S.slot i e h
    cases e with
    | no => trivial
    | val d => obtain ⟨v, h1, r⟩ := this; exact ⟨v, h1, r.mono ex⟩
    | own _ => cases hm
    | two _ => cases hm
theorem lc2_data {X : Cx} {es : List Sl} {wi wi1 : TI} {g g1 : TG} {te : TE} {vs vs1 is is1 : List Nat} {items items1 : List PyData} {F F1 : PyData → List Sl → List Sl} {out : PyData → PyData → PyData}
    (src : PSrc X es wi items) (ga : ∀ d ∈ items, GA g d (F d) is) (his : ∀ i ∈ is, i ∈ vs) (src1 : ∀ d ∈ items, FSrc X (F d (wipeE es vs)) wi1 items1) (ga1 : ∀ d ∈ items1, GA g1 d (F1 d) is1) (his1 : ∀ i ∈ is1, i ∈ vs1)
    (he : ∀ d ∈ items, ∀ d1 ∈ items1, EvV te (F1 d1 (wipeE (F d (wipeE es vs)) vs1)) (out d d1)) (hno : ∀ d ∈ items, ∀ e ∈ F d (wipeE es vs), e.mine = false) (hz : items.length * items1.length ≤ 100000)
    {B : Hp} {C O : Addr → Prop} {σ : L2.St} {H : Hp} (S : Sit B C O H σ es) {Q : VK} (q : ∀ p xs H', H p = none → Ex H H' → H' p = some (.lst xs) → RpAll (hid (fun a => O a ∨ a = p) H') xs (items.flatMap fun d => items1.map (out d)) → Q (.ref p) H') : tLc2 wi g tYes wi1 g1 tYes te vs vs1 σ H Q := by
  refine src B C O σ H S _ fun J H1 e1 j D hD => ?_
  refine ⟨fun i m H2 => m = items.length - i ∧ i ≤ items.length ∧ Ex H1 H2 ∧ ∃ acc, H2 D = some (.lst acc) ∧ acc.length ≤ i * items1.length ∧ RpAll (hid (fun a => O a ∨ a = D) H2) acc ((items.take i).flatMap fun d => items1.map (out d)), ⟨items.length, by omega, Nat.zero_le _, Ex.new hD, [], upd_same, Nat.zero_le _, .nil⟩, ?_⟩
  rintro i m H2 ⟨rfl, hi, e2, acc, hacc, hal, ra⟩
  by_cases hlt : i < items.length
  · refine .inr ⟨j.go i hlt H2 e2, fun H3 => i + 1 ≤ items.length ∧ Ex H1 H3 ∧ ∃ acc, H3 D = some (.lst acc) ∧ acc.length ≤ (i + 1) * items1.length ∧ RpAll (hid (fun a => O a ∨ a = D) H3) acc ((items.take (i + 1)).flatMap fun d => items1.map (out d)), fun H3 h3 => ⟨items.length - (i + 1), by omega, rfl, h3⟩, fun x H3 y => ?_⟩
    have hd : items[i]? = some items[i] := List.getElem?_eq_getElem hlt
    have hmem : items[i] ∈ items := List.getElem_mem hlt
    generalize hdd : items[i] = d at hd hmem
    obtain ⟨e3, rx⟩ := j.yld i d hd H2 x H3 e2 y
    have S2 : Sit B C (fun a => O a ∨ a = D) H2 σ es := (S.mono e1).hide hD e2 hacc
    have rx := rx (fun a => O a ∨ a = D) (hid_new hD e2) S2.dom
    have etake : (items.take (i + 1)).flatMap (fun d => items1.map (out d)) = (items.take i).flatMap (fun d => items1.map (out d)) ++ items1.map (out d) := by
      rw [List.take_add_one, hd, List.flatMap_append]
      show _ ++ [d].flatMap _ = _
      rw [List.flatMap_singleton]
    refine ga d hmem B C _ (wipe σ vs) H3 (wipeE es vs) x ((S2.mono e3).wipe vs) rx _ fun σ' S3 hw => ⟨?_, ?_⟩
    · rw [hw vs his, wipe_wipe fun i h => h]
    unfold tYes
    dsimp only
    rw [if_pos rfl]
    refine src1 d hmem B C _ σ' H3 S3 _ fun J1 H4 e4 j1 => ?_
    have S4 := S3.mono e4
    have ex4 : Ex H1 H4 := (e2.trans e3).trans e4
    have hD4 : H4 D = some (.lst acc) := (e3.trans e4) _ _ hacc
    have hBD : B D = none := by
      cases hq : B D with
      | none => rfl
      | some o => have := (S.mono e1).base D o hq; rw [hD] at this; cases this
    refine ⟨fun jj m H5 => m = items1.length - jj ∧ jj ≤ items1.length ∧ (∀ a o, a ≠ D → H4 a = some o → H5 a = some o) ∧ ∃ acc, H5 D = some (.lst acc) ∧ acc.length ≤ i * items1.length + jj ∧ RpAll (hid (fun a => O a ∨ a = D) H5) acc ((items.take i).flatMap (fun d => items1.map (out d)) ++ (items1.take jj).map (out d)),
      ⟨items1.length, by omega, Nat.zero_le _, fun _ _ _ h => h, acc, hD4, by omega, ?_⟩, ?_⟩
    · rw [List.take_zero, List.map_nil, List.append_nil]
      exact ra.mono (hid_ex (e3.trans e4))
    rintro jj m H5 ⟨rfl, hjj, k5, acc5, hD5, hl5, r5⟩
    have S5 : Sit B C (fun a => O a ∨ a = D) H5 σ' (F d (wipeE es vs)) := S4.poke (hno d hmem) (.inr rfl) hBD k5 hD5
    have ex5 : Ex (hid (fun a => O a ∨ a = D) H4) H5 := fun a o h => by
      obtain ⟨h1, h2⟩ := hid_some.mp h
      exact k5 a o (fun z => h1 (.inr z)) h2
    have ex5' : Ex (hid (fun a => O a ∨ a = D) H4) (hid (fun a => O a ∨ a = D) H5) := fun a o h => hid_some.mpr ⟨(hid_some.mp h).1, ex5 a o h⟩
    have ex15 : Ex H1 H5 := fun a o h => k5 a o (fun z => by rw [z, hD] at h; cases h) (ex4 a o h)
    by_cases hlt1 : jj < items1.length
    · have hbig : (i + 1) * items1.length ≤ items.length * items1.length := Nat.mul_le_mul_right _ (by omega)
      rw [Nat.add_mul, Nat.one_mul] at hbig
      refine .inr ⟨j1.go jj hlt1 H5 ex5, fun H6 => jj + 1 ≤ items1.length ∧ (∀ a o, a ≠ D → H4 a = some o → H6 a = some o) ∧ ∃ acc, H6 D = some (.lst acc) ∧ acc.length ≤ i * items1.length + (jj + 1) ∧ RpAll (hid (fun a => O a ∨ a = D) H6) acc ((items.take i).flatMap (fun d => items1.map (out d)) ++ (items1.take (jj + 1)).map (out d)),
        fun H6 h6 => ⟨items1.length - (jj + 1), by omega, rfl, h6⟩, fun x1 H6 y1 => ?_⟩
      have hd1 : items1[jj]? = some items1[jj] := List.getElem?_eq_getElem hlt1
      have hmem1 : items1[jj] ∈ items1 := List.getElem_mem hlt1
      generalize hdd1 : items1[jj] = d1 at hd1 hmem1
      obtain ⟨e6, rx1⟩ := j1.yld jj d1 hd1 H5 x1 H6 ex5 y1
      have rx1 := rx1 (fun a => O a ∨ a = D) ex5' S5.dom
      refine ga1 d1 hmem1 B C _ (wipe σ' vs1) H6 _ x1 ((S5.mono e6).wipe vs1) rx1 _ fun σ2 S6 hw1 => ⟨?_, ?_⟩
      · rw [hw1 vs1 his1, wipe_wipe fun i h => h]
      rw [if_pos rfl]
      refine he d hmem d1 hmem1 B C _ σ2 H6 S6 _ fun v H7 e7 rv => ⟨acc5, (e6.trans e7) _ _ hD5, Nat.lt_of_lt_of_le (show acc5.length < 100001 by omega) (by decide), hlt1, fun a o c h => ?_, acc5 ++ [v], upd_same, by simp; omega, ?_⟩
      · rw [upd_ne c]
        exact (e6.trans e7) a o (k5 a o c h)
      · rw [hid_upd (.inr rfl), List.take_add_one, hd1, List.map_append, ← List.append_assoc]
        exact (r5.mono (hid_ex (e6.trans e7))).append (.cons rv .nil)
    · have hj' : jj = items1.length := by omega
      subst hj'
      rw [List.take_length] at r5
      refine .inl ⟨j1.stop H5 ex5, hlt, ex15, acc5, hD5, by rw [Nat.add_mul, Nat.one_mul]; exact hl5, ?_⟩
      rw [etake]; exact r5
  · have hi' : i = items.length := by omega
    subst hi'
    rw [List.take_length] at ra
    exact .inl ⟨j.stop H2 e2, q D acc H2 (fresh_back e1 hD) (e1.trans e2) hacc ra⟩
section
variable {X : Cx} {es : List Sl} {elt tg iter tg1 iter1 : Expr} {scope : Scope} {own : List (Str × Nat)} {pos lpos py : Pos} {wi wi1 : TI} {g g1 : TG} {vs1 is is1 : List Nat} {items items1 : List PyData} {F F1 : PyData → List Sl → List Sl} {out : PyData → PyData → PyData} {P : DE} {x : Str}
/-- x = [elt for .. for ..] -/
theorem ss_setLc2 (i : Nat) (hN : X.N.Nodup) (hi : PI X tg iter wi) (src : PSrc X es wi items) (ok : BlkOk X.N X.env.scope scope own) (hv : ∀ i ∈ vs1, i ∈ own.map (·.2))
    (hg : ∀ (s : Shared) (H : Hp) (C : Addr) (cl : List (Str × Addr)) (fp : List Addr), PG (X.blk s H scope (compEnvC scope cl C X.env) fp) tg g) (ga : ∀ d ∈ items, GA g d (F d) is) (his : ∀ i ∈ is, i ∈ own.map (·.2))
    (hi1 : ∀ (s : Shared) (H : Hp) (C : Addr) (cl : List (Str × Addr)) (fp : List Addr), PI (X.blk s H scope (compEnvC scope cl C X.env) fp) tg1 iter1 wi1) (src1 : ∀ d ∈ items, FSrc X (F d (wipeE es (own.map (·.2)))) wi1 items1)
    (hg1 : ∀ (s : Shared) (H : Hp) (C : Addr) (cl : List (Str × Addr)) (fp : List Addr), PG (X.blk s H scope (compEnvC scope cl C X.env) fp) tg1 g1) (ga1 : ∀ d ∈ items1, GA g1 d (F1 d) is1) (his1 : ∀ i ∈ is1, i ∈ vs1)
    (he : ∀ (s : Shared) (H : Hp) (C : Addr) (cl : List (Str × Addr)) (fp : List Addr), ∀ d ∈ items, ∀ d1 ∈ items1, PV (X.blk s H scope (compEnvC scope cl C X.env) fp) (F1 d1 (wipeE (F d (wipeE es (own.map (·.2)))) vs1)) elt (out d d1))
    (hno : ∀ d ∈ items, ∀ e ∈ F d (wipeE es (own.map (·.2))), e.mine = false) (hz : items.length * items1.length ≤ 100000) (q : P.nx (es.set i (.val (.list (items.flatMap fun d => items1.map (out d))))))
    (hsw : swapsWith (.ListComp elt [⟨tg, iter, [], 0⟩, ⟨tg1, iter1, [], 0⟩] scope lpos) (some (.Name x py)) pos.line X.env = pure true) (hx : X.N[i]? = some x := by rfl) (hxl : X.env.scope.names.lookup x = some .local := by rfl) (hc : X.calm = true := by rfl) (hs : ∀ x, foldedSetIterable iter X.env x = pure x := by intro _; rfl)
    (hs1 : ∀ env x, foldedSetIterable iter1 env x = pure x := by intro _ _; rfl) : SS X es (.Assign [.Name x py] (.ListComp elt [⟨tg, iter, [], 0⟩, ⟨tg1, iter1, [], 0⟩] scope lpos) pos) P := fun B C O σ H D S G =>
  wS_of (ps_setLc2 hc hN hx hxl hsw hi ok hv hg (fun _ _ _ _ _ => pts_nil) hi1 hg1 (fun _ _ _ _ _ => pts_nil) (te := wEb X scope elt) (fun s H C cl fp => ⟨fun pins s' σ H Q I h => h s _ C cl fp pins s' I⟩) hs hs1)
    (lc2_data src ga his src1 ga1 his1 (fun d hd d1 hd1 => ev_b fun s H0 C0 cl fp => he s H0 C0 cl fp d hd d1 hd1) hno hz S fun p xs H' h1 e1 h3 r => G.nx O H' _ _ ((S.mono e1).setVal (.lst (hid_at S.dom h1 h3) (r.mono hid_more))) q)
end
end PcW
set_option Elab.async false
set_option linter.all false
set_option maxRecDepth 100000
set_option maxHeartbeats 4000000
/-! all_rows. -/
namespace PcW
open PySem PySem.Spec PyProof.Rows L2 PcLin
theorem mine_of {l : List Sl} (h : (l.all fun e => !e.mine) = true) : ∀ e ∈ l, e.mine = false := fun e he => by
  have := List.all_eq_true.mp h e he
  simpa using this
theorem fsrc_rngB {X : Cx} {scope : Scope} {es : List Sl} {e : Expr} {n : Int} (h : ∀ (s : Shared) (H : Hp) (C : Addr) (cl : List (Str × Addr)) (fp : List Addr), PV (X.blk s H scope (compEnvC scope cl C X.env) fp) es e (.int n)) (h0 : 0 ≤ n) (h1 : n ≤ 100000)
    (hs : ∀ (s : Shared) (H : Hp) (C : Addr) (cl : List (Str × Addr)) (fp : List Addr), starEach [e] (X.blk s H scope (compEnvC scope cl C X.env) fp).env = (false, eval e (X.blk s H scope (compEnvC scope cl C X.env) fp).env) :: starEach [] (X.blk s H scope (compEnvC scope cl C X.env) fp).env := by intros; rfl) : FSrc X es (iRng1 (wAb X scope [e])) (rng 0 n.toNat) := fun B C O σ H S R q => by
  intro s H0 C0 cl fp
  refine wA_one (h s H0 C0 cl fp B C O σ H S _ fun v H1 e1 r => ?_) (hs s H0 C0 cl fp)
  cases rp_int r
  exact ⟨n, rfl, by omega, by omega, q _ H1 e1 srcj_rng⟩
def outA (p : Int) (r : IRow) (d : PyData) : PyData → PyData
  | .int a => dRow (addM p (rowOf d) (scaledM p r a))
  | _ => .none
theorem ext_data (p : Int) (l : List IRow) (r : IRow) : ((l.map dRow).flatMap fun d => (rng 0 p.toNat).map (outA p r d)) = (extM p l r).map dRow := by
  unfold extM rng
  rw [List.flatMap_map, List.map_flatMap]
  congr 1
  funext v
  rw [List.map_map, List.map_map]
  refine List.map_congr_left fun a _ => ?_
  show dRow (addM p (rowOf (dRow v)) (scaledM p r (0 + (a : Int)))) = dRow (addM p v (scaledM p r (a : Int)))
  rw [rowOf_d, Int.zero_add]
section
variable {p n : Nat}
theorem ext_len (l : List IRow) (r : IRow) : (extM (p : Int) l r).length = l.length * p := by
  unfold extM
  induction l with
  | nil => simp
  | cons w l ih =>
    rw [List.flatMap_cons, List.length_append, ih, List.length_map, List.length_range, Int.toNat_natCast, List.length_cons, Nat.add_mul, Nat.one_mul, Nat.add_comm]
theorem all_len (rows : List IRow) (n : Nat) : (allM (p : Int) rows n).length = p ^ rows.length := by
  have : ∀ (rows l : List IRow), (rows.foldl (extM (p : Int)) l).length = l.length * p ^ rows.length := fun rows => by
    induction rows with
    | nil => intro l; simp
    | cons r rows ih =>
      intro l
      rw [List.foldl_cons, ih, ext_len, List.length_cons, Nat.pow_succ, Nat.mul_assoc, Nat.mul_comm p]
  unfold allM
  rw [this]; simp
theorem w_ext (hp : Pr p) {l : List IRow} {r : IRow} (hl : ∀ v ∈ l, W p n v) (hr : W p n r) : ∀ v ∈ extM (p : Int) l r, W p n v := fun v hv => by
  unfold extM at hv
  obtain ⟨w, hw, hv⟩ := List.mem_flatMap.mp hv
  obtain ⟨a, _, rfl⟩ := List.mem_map.mp hv
  exact w_add hp (hl w hw) (w_scaled hp hr _)
theorem w_all (hp : Pr p) {rows : List IRow} (hr : ∀ r ∈ rows, W p n r) : ∀ v ∈ allM (p : Int) rows n, W p n v := by
  have : ∀ (rows l : List IRow), (∀ r ∈ rows, W p n r) → (∀ v ∈ l, W p n v) → ∀ v ∈ rows.foldl (extM (p : Int)) l, W p n v := fun rows => by
    induction rows with
    | nil => intro l _ h; exact h
    | cons r rows ih =>
      intro l h1 h2
      rw [List.foldl_cons]
      exact ih _ (fun r' hr' => h1 r' (List.mem_cons_of_mem _ hr')) (w_ext hp h2 (h1 r List.mem_cons_self))
  refine this rows _ hr fun v hv => ?_
  rw [List.mem_singleton.mp hv]
  exact w_zero hp
theorem pow_take {m k : Nat} (hp : Pr p) (h : m ≤ k) : p ^ m ≤ p ^ k := Nat.pow_le_pow_right (by have := hp.lo; omega) h
end
section
variable {P : Program} {w : World} {K : PySem.W.Frag} {mg : Str → Option Value} {base : Heap} {f : Addr} {fd : FuncData}
theorem scAll : GScope ["space", "width", "p", "found", "row", "v", "a"] ["space", "width", "p"] (defScope sAll) := ⟨rfl, rfl, rfl, by decide +kernel, rfl, by decide +kernel, by decide +kernel⟩
def RAll : List PyData → List PyData → Prop := fun ds out => ∃ (p n : Nat) (space : List IRow), Pr p ∧ n ≤ 1000 ∧ p ^ space.length ≤ 1000 ∧ space.length ≤ n ∧ (∀ r ∈ space, W p n r) ∧ ds = [dTab space, .int (n : Int), .int (p : Int)] ∧ out = (sortM (allM p space n)).map dRow
theorem ok_all (F : Fun K "all_rows" "all_rows" sAll f fd) (T : Bi mg) (Ga : Fc P w K mg base 1 "add" ["v", "w", "p"] (spF RAdd)) (Gs : Fc P w K mg base 1 "scaled" ["v", "a", "p"] (spF RScaled)) : GenOk P w K mg base 2 f fd ["space", "width", "p"] RAll := by
  refine gen_data (N := ["space", "width", "p", "found", "row", "v", "a"]) (i := 5) (y := "v") F scAll rfl (fun ds out h => by obtain ⟨p, n, sp, _, _, _, _, _, rfl, _⟩ := h; rfl) rfl rfl (by decide) (by decide) (fun _ _ => rfl) (fun _ _ => rfl)
    (fun ds out h => by
      obtain ⟨p, n, sp, _, _, hz, _, _, _, rfl⟩ := h
      rw [List.length_map, (sort_perm _).length_eq, all_len]; omega) fun cdv A outer s H pn ds out hr h => ?_
  obtain ⟨p, n, sp, hp, hn, hz, hsn, hw, rfl, rfl⟩ := h
  have hp100 := hp.hi
  have hr1 := hr.mono (show 1 ≤ 1 from Nat.le_refl 1)
  have hun := hr.un
  refine ss_set 3 scAll.nd (PF.pv (pf_lst (pvs_cons (pv_zeros (pv_tup (pvs_cons pv_int pvs_nil) (hl := Nat.le_of_ble_eq_true rfl)) (pv_var 1) hn) pvs_nil) (hl := Nat.le_of_ble_eq_true rfl))) ?_
  refine ss_for (items := sp.map dRow) (pi_tup (pe_w _)) (fsrc_tup (pv_var 0)) (pg_oneC (i := 4) scAll.nd rfl rfl rfl) (F := F1 4) (is := [4]) (fun d _ => ga1)
    (fun i es => ∃ e4, es = [.val (dTab sp), .val (.int (n : Int)), .val (.int (p : Int)), .val (dRows ((sp.take i).foldl (extM p) [zeroM n])), e4, .no, .no]) ⟨_, rfl⟩ (fun i d es hd hI => ?_) (fun es hI => ?_)
  · obtain ⟨e4, rfl⟩ := hI
    rw [List.getElem?_map] at hd
    cases hri : sp[i]? with
    | none => rw [hri] at hd; cases hd
    | some r =>
      rw [hri] at hd
      cases hd
      have hrw : W p n r := hw r (List.mem_of_getElem? hri)
      have hil : i < sp.length := (List.getElem?_eq_some_iff.mp hri).1
      rw [foldl_take _ _ _ hri]
      have hfl : ((sp.take i).foldl (extM (p : Int)) [zeroM n]).length = p ^ i := by
        have := all_len (p := p) (sp.take i) n
        rw [List.length_take, Nat.min_eq_left (by omega)] at this
        exact this
      have hfw : ∀ v ∈ (sp.take i).foldl (extM (p : Int)) [zeroM n], W p n v := w_all hp fun v hv => hw v (List.mem_of_mem_take hv)
      generalize (sp.take i).foldl (extM (p : Int)) [zeroM n] = found at hfl hfw
      have hpi : p ^ i ≤ 1000 := Nat.le_trans (pow_take hp (Nat.le_of_lt hil)) hz
      refine sr_cons (ss_setLc2 3 (items := found.map dRow) (items1 := rng 0 (p : Int).toNat) (own := [("v", 5), ("a", 6)]) (vs1 := [6]) (out := outA p r) (F := F1 5) (F1 := F1 6) (is := [5]) (is1 := [6]) scAll.nd (pi_list (pe_w _)) (FSrc.p (fsrc_list (pv_var 3)))
        (blkOk_by (N := ["space", "width", "p", "found", "row", "v", "a"]) (sc := defScope sAll) (by decide +kernel)) (by decide) (fun _ _ _ _ _ => pg_one (i := 5) scAll.nd rfl rfl) (fun d hd => ga1) (by decide)
        (fun s H C cl fp => pi_range1 (by rfl) T.range ⟨fun pos pins s' σ H' Q I h => h s _ C cl fp pos pins s' I⟩) (fun d hd => fsrc_rngB (fun s H C cl fp => pv_var 2) (by omega) (by omega)) (fun _ _ _ _ _ => pg_one (i := 6) scAll.nd rfl rfl) (fun d hd => ga1) (by decide)
        (fun s H C cl fp d hd d1 hd1 => ?_) (fun d hd => mine_of rfl) ?_ ?_ (sw_true rfl rfl rfl (by decide +kernel)))
      · obtain ⟨v, hv, rfl⟩ := List.mem_map.mp hd
        obtain ⟨a, ha, rfl⟩ := rng_mem hd1
        have hvw := hfw v hv
        show PV _ _ _ (dRow (addM p (rowOf (dRow v)) (scaledM p r (0 + (a : Int)))))
        rw [rowOf_d]
        exact pv_call Ga hr1 (pvs_cons (pv_var 5) (pvs_cons (pv_call Gs hr1 (pvs_cons (pv_var 4) (pvs_cons (pv_var 6) (pvs_cons (pv_var 2) pvs_nil))) ⟨p, 0 + (a : Int), r, hp.pos, by rw [hrw.len]; exact hn, w_sm hp hrw, rfl, rfl⟩) (pvs_cons (pv_var 2) pvs_nil)))
          ⟨p, v, scaledM p r (0 + (a : Int)), hp.pos, by rw [hvw.len]; exact hn, rfl, rfl⟩
      · rw [List.length_map, rng_len, hfl, Int.toNat_natCast]
        have : p ^ i * p ≤ 1000 * 100 := Nat.mul_le_mul hpi hp100
        omega
      · rw [ext_data]
        exact sr_nil ⟨.val (dRow r), rfl⟩
  · obtain ⟨e4, rfl⟩ := hI
    rw [List.length_map, List.take_length]
    refine pf_sorted T.sorted (by show A.units + 3 + 64 < cLine; have : A.units + 3 + 16 * 1 + 200 < cLine := hun; omega) (PV.pl (pv_var 3)) ?_
    by_cases h0 : n = 0
    · have e : sp = [] := List.eq_nil_of_length_eq_zero (by omega)
      rw [e]
      exact .inl (Nat.le_refl _)
    · refine .inr fun v hv e => h0 ?_
      have := (w_all hp hw v hv).len
      rw [e] at this
      exact this.symm
end
end PcW
set_option Elab.async false
set_option linter.all false
set_option maxRecDepth 100000
set_option maxHeartbeats 4000000
/-! What turns the list of two ints. -/
namespace PcW
open PySem PySem.Spec PyProof.Rows L2 PcLin
structure Turned (st : Addr) (H H' : Hp) : Prop where
  keep : ∀ a o, a ≠ st → H a = some o → H' a = some o
  two : ∃ x y, H' st = some (.lst [.int x, .int y])
theorem Turned.trans {st : Addr} {H H1 H2 : Hp} (a : Turned st H H1) (b : Turned st H1 H2) : Turned st H H2 := ⟨fun x o c h => b.keep x o c (a.keep x o c h), b.two⟩
theorem Turned.ex {st : Addr} {H H1 H2 : Hp} (a : Turned st H H1) (e : Ex H1 H2) : Turned st H H2 := by
  obtain ⟨x, y, h⟩ := a.two
  exact ⟨fun b o c h => e _ _ (a.keep b o c h), x, y, e _ _ h⟩
theorem Turned.of {st : Addr} {H H1 H2 : Hp} (e : Ex H H1) (a : Turned st H1 H2) : Turned st H H2 := ⟨fun b o c h => a.keep b o c (e _ _ h), a.two⟩
section
variable {B : Hp} {C O : Addr → Prop} {H H' : Hp} {σ : L2.St} {es : List Sl} {st : Addr} {j : Nat}
theorem Sit.tw (S : Sit B C O H σ es) (hs : es[j]? = some (.two st)) : OwnAt B O σ[j]? st ∧ ∃ x y, H st = some (.lst [.int x, .int y]) := S.slot j _ hs
theorem Sit.still (S : Sit B C O H σ es) (hs : es[j]? = some (.two st)) (e : Ex H H') : Turned st H H' := by
  obtain ⟨_, x, y, h⟩ := S.tw hs
  exact ⟨fun a o _ h => e _ _ h, x, y, e _ _ h⟩
theorem Sit.turn (S : Sit B C O H σ es) (hs : es[j]? = some (.two st)) (t : Turned st H H') : Sit B C O H' σ es := (S.turnTwo hs t.keep t.two).1
theorem Sit.turnEx (S : Sit B C O H σ es) (hs : es[j]? = some (.two st)) (t : Turned st H H') : Ex (hid O H) (hid O H') := (S.turnTwo hs t.keep t.two).2
theorem Sit.ne (S : Sit B C O H σ es) (hs : es[j]? = some (.two st)) {p : Addr} (h : H p = none) : p ≠ st := fun e => by
  obtain ⟨_, x, y, q⟩ := S.tw hs
  rw [e, q] at h; cases h
def NoMine (es : List Sl) (j : Nat) : Prop := ((es.set j .no).all fun e => !e.mine) = true
theorem NoMine.at (h : NoMine es j) {k : Nat} {e : Sl} (hk : es[k]? = some e) (c : k ≠ j) : e.mine = false := by
  have : e ∈ es.set j .no := List.mem_of_getElem? (show (es.set j .no)[k]? = some e by rw [List.getElem?_set_ne (Ne.symm c)]; exact hk)
  simpa using List.all_eq_true.mp h e this
theorem Sit.pokeT {D : Addr} {u : HO} (S : Sit B C O H σ es) (hs : es[j]? = some (.two st)) (hno : NoMine es j) (hO : O D) (hB : B D = none) (k : ∀ a o, a ≠ st → a ≠ D → H a = some o → H' a = some o) (hD : H' D = some u) (ht : ∃ x y, H' st = some (.lst [.int x, .int y])) : Sit B C O H' σ es := by
  obtain ⟨w, _, _, _⟩ := S.tw hs
  have ex : Ex (hid O H) (hid O H') := fun a o h => by
    obtain ⟨h1, h2⟩ := hid_some.mp h
    exact hid_some.mpr ⟨h1, k a o (fun z => h1 (by rw [z]; exact w.own)) (fun z => h1 (by rw [z]; exact hO)) h2⟩
  refine ⟨fun a o h => k a o (fun z => by rw [z, w.new] at h; cases h) (fun z => by rw [z, hB] at h; cases h) (S.base a o h), S.sub, S.cdom, fun a h => ?_, S.fresh, S.len, fun i e h => ?_, S.dis⟩
  · by_cases c : a = D
    · exact ⟨u, by rw [c]; exact hD⟩
    · by_cases c2 : a = st
      · obtain ⟨x, y, q⟩ := ht
        exact ⟨_, by rw [c2]; exact q⟩
      · obtain ⟨o, q⟩ := S.dom a h
        exact ⟨o, k a o c2 c q⟩
  · by_cases c : i = j
    · subst c
      rw [hs] at h; cases h
      exact ⟨w, ht⟩
    · have hm := hno.at h c
      have := S.slot i e h
      cases e with
      | no => trivial
      | val d => obtain ⟨v, h1, r⟩ := this; exact ⟨v, h1, r.mono ex⟩
      | own _ => cases hm
      | two _ => cases hm
end
def SVt (X : Cx) (es : List Sl) (st : Addr) (e : Expr) (R : PyData → Prop) : Prop := ∀ (B : Hp) (C O : Addr → Prop) (σ : L2.St) (H : Hp), Sit B C O H σ es → ∀ Q : VK, (∀ v H' d, Turned st H H' → R d → Rp (hid O H') v d → Q v H') → wE X e σ H Q
def SLt (X : Cx) (es : List Sl) (st : Addr) (e : Expr) (R : List PyData → Prop) : Prop := ∀ (B : Hp) (C O : Addr → Prop) (σ : L2.St) (H : Hp), Sit B C O H σ es → ∀ Q : VK, (∀ p xs H' ds, H p = none → Turned st H H' → H' p = some (.lst xs) → RpAll (hid (fun a => O a ∨ a = p) H') xs ds → R ds → Q (.ref p) H') → wE X e σ H Q
def SBt (X : Cx) (es : List Sl) (st : Addr) (e : Expr) : Prop := ∀ (B : Hp) (C O : Addr → Prop) (σ : L2.St) (H : Hp), Sit B C O H σ es → ∀ Q : Bool → Hp → Prop, (∀ b H', Turned st H H' → Q b H') → wT X e σ H Q
section
variable {X : Cx} {es : List Sl} {st : Addr} {e a b c i : Expr} {j : Nat} {R : PyData → Prop} {pos : Pos} {ds : List PyData} {d : PyData}
theorem svt_pv (hs : es[j]? = some (.two st)) (h : PV X es e d) : SVt X es st e (· = d) := fun B C O σ H S Q q => h B C O σ H S Q fun v H' e1 r => q v H' d (S.still hs e1) rfl r
theorem SVt.mono {R' : PyData → Prop} (h : SVt X es st e R) (hR : ∀ d, R d → R' d) : SVt X es st e R' := fun B C O σ H S Q q => h B C O σ H S Q fun v H' d t r rv => q v H' d t (hR d r) rv
theorem svt_call {k : Nat} {x y : Str} {p py : Pos} {ps : List Str} {ok : List PyData → Prop} {R : List PyData → PyData → Prop} {l : List Expr} (j : Nat) (F : Fc X.prog X.w X.K X.mg X.base k x ps (spS ok R)) (hr : Room k X.A) (hs : es[j]? = some (.two st)) (ha : PVs X es l ds) (hok : ok ds)
    (hg : Gl X x := by rfl) (hN : X.N[j]? = some y := by rfl) (hv : Vis X.env.scope y := by first | exact Or.inl rfl | exact Or.inr (Or.inl rfl) | exact Or.inr (Or.inr rfl)) (hd : (y == ("__debug__" : Str)) = false := by decide) (hcd : (y == ("__classdict__" : Str)) = false := by decide)
    (hdb : (x == ("__debug__" : Str)) = false := by decide) (he : starEach (.Name y py :: l) X.env = (false, eval (.Name y py) X.env) :: starEach l X.env := by rfl) (hpl : (backTo pos (starEach l X.env)).any (·.1) = false := by rfl) : SVt X es st (.Call (.Name x p) (.Name y py :: l) [] pos) (R ds) := by
  obtain ⟨f, fd, G, hm, hk, hb⟩ := F.ex
  exact fun B C O σ H S Q q => wE_of (pe_call G hr hg hm hk hb .nil pass0 (pa_cons (pe_var hN hv hd hcd) (pa_w l) he) hdb he hpl) (by
    obtain ⟨w, x0, y0, h0⟩ := S.tw hs
    refine ⟨_, w.ref, ha B C O σ H S _ fun vs H1 e1 r1 => ?_⟩
    refine ⟨O, st, x0, y0, vs, ds, by rw [List.append_nil], w.own, (S.mono e1).dom, e1 _ _ h0, r1, hok, fun v H' d k ht hR r => ?_⟩
    exact q v H' d (.of e1 ⟨k, ht⟩) hR r)
theorem svt_ixI {ns : List Int} (hs : es[j]? = some (.two st)) (ha : PF X es a (ns.map .int)) (hi : SVt X es st i fun d => ∃ k : Nat, k < ns.length ∧ d = .int (k : Int)) (hp : PlainIx i := by exact fun _ _ => rfl) : SVt X es st (.Subscript a i pos) fun d => ∃ k, k < ns.length ∧ d = .int (ns.getD k 0) := fun B C O σ H S Q q =>
  wE_of (pe_ix ix_list (pe_w a) (pe_w i) hp) (ha B C O σ H S _ fun p xs H1 h0 e1 h1 r => hi B C O σ H1 (S.mono e1) _ fun v2 H2 d t hd r2 => by
    obtain ⟨k, hk, rfl⟩ := hd
    cases rp_int r2
    have ex := rpAll_ints r
    subst ex
    have g : (ns.map V.int)[k]? = some (.int (ns.getD k 0)) := by rw [List.getElem?_map, List.getElem?_eq_getElem hk, getD_at hk]; rfl
    refine ⟨p, _, _, _, rfl, rfl, SqL.of (t.keep _ _ (S.ne hs h0) h1), atI_nat g, q _ H2 _ (.of e1 t) ⟨k, hk, rfl⟩ (.int _)⟩)
theorem svt_subI {y : Int} (hs : es[j]? = some (.two st)) (ha : SVt X es st a R) (hR : ∀ d, R d → ∃ x, d = .int x) (hb : PV X es b (.int y)) : SVt X es st (.BinOp a .Sub b pos) fun d => ∃ x, R (.int x) ∧ d = .int (x - y) := fun B C O σ H S Q q =>
  wE_of (pe_op op_sub (pe_w a) (pe_w b)) (ha B C O σ H S _ fun v1 H1 d t hd r1 => hb B C O σ H1 (S.turn hs t) _ fun v2 H2 e2 r2 => by
    obtain ⟨x, rfl⟩ := hR d hd
    cases rp_int r1
    cases rp_int r2
    exact ⟨x, y, rfl, rfl, q _ H2 _ (t.ex e2) ⟨x, hd, rfl⟩ (.int _)⟩)
theorem sbt_eqI {y : Int} (hs : es[j]? = some (.two st)) (ha : SVt X es st a R) (hR : ∀ d, R d → ∃ x, d = .int x) (hb : PV X es b (.int y)) : SBt X es st (.Compare a [.Eq] [b] pos) := fun B C O σ H S Q q =>
  wT_of (pt_cmpR op_eq (pe_w a) (pe_w b) (nomark _)) (ha B C O σ H S _ fun v1 H1 d t hd r1 => hb B C O σ H1 (S.turn hs t) _ fun v2 H2 e2 r2 => by
    obtain ⟨x, rfl⟩ := hR d hd
    cases rp_int r1
    cases rp_int r2
    exact ⟨rfl, _, rfl, q _ H2 (t.ex e2)⟩)
/-- tuple(xs) -/
theorem svt_tup {R : List PyData → Prop} {p : Pos} (hs : es[j]? = some (.two st)) (hm : X.mg "tuple" = none) (h : SLt X es st e R) (hg : Gl X "tuple" := by rfl) (he : starEach [e] X.env = (false, eval e X.env) :: starEach [] X.env := by rfl) (hpl : (backTo pos (starEach [] X.env)).any (·.1) = false := by rfl) :
    SVt X es st (.Call (.Name "tuple" p) [e] [] pos) fun d => ∃ ds, R ds ∧ d = .tuple ds := fun B C O σ H S Q q =>
  wE_of (pe_callTy call_tuple_of hg hm (by decide +kernel) (pa_w [e]) (he := he) (hpl := hpl)) (wA_one (h B C O σ H S _ fun p xs H1 ds h0 t h1 r hR => ⟨p, xs, rfl, .inl ⟨SqL.of h1, fun l hl =>
    q _ _ _ (t.ex (Ex.new hl)) ⟨ds, hR, rfl⟩ (.tup (hid_at (S.turn hs t).dom hl upd_same) ((r.mono hid_more).mono (hid_ex (Ex.new hl))))⟩⟩) he)
theorem SLt.sv {R : List PyData → Prop} (hs : es[j]? = some (.two st)) (h : SLt X es st e R) : SVt X es st e fun d => ∃ ds, R ds ∧ d = .list ds := fun B C O σ H S Q q => h B C O σ H S Q fun p xs H' ds h0 t h1 r hR =>
  q _ H' _ t ⟨ds, hR, rfl⟩ (.lst (hid_some.mpr ⟨fun z => (by obtain ⟨o, w⟩ := S.dom p z; rw [h0] at w; cases w), h1⟩) (r.mono hid_more))

/-! ### statements -/
variable {P : DE} {l l2 : List Stmt} {x : Str} {py : Pos}
theorem ss_retS (hs : es[j]? = some (.two st)) (h : SVt X es st e R) (q : ∀ d, R d → P.rt es d) : SS X es (.Return (some e) pos) P := fun B C O σ H D S G => wS_of (ps_ret (pe_w e)) (h B C O σ H S _ fun v H' d t r rv => G.rt O H' σ es v d (S.turn hs t) rv (q d r))
theorem ss_setS (i : Nat) (hs : es[j]? = some (.two st)) (hN : X.N.Nodup) (h : SVt X es st e R) (q : ∀ d, R d → P.nx (es.set i (.val d))) (hi : X.N[i]? = some x := by rfl) (hx : Loc X.env.scope x := by first | exact .inl rfl | exact .inr rfl) (hsw : swapsWith e (some (.Name x py)) pos.line X.env = pure false := by rfl)
    (hf : X.fn x = true ∨ X.env.scope.names.lookup x = some .local := by first | exact .inl rfl | exact .inr rfl) : SS X es (.Assign [.Name x py] e pos) P := fun B C O σ H D S G =>
  wS_of (ps_set hN hi hx (pe_w e) hsw hf) (h B C O σ H S _ fun v H' d t r rv => G.nx O H' _ _ ((S.turn hs t).setVal rv) (q d r))
theorem ss_ifS (hs : es[j]? = some (.two st)) (h : SBt X es st c) (h1 : SR X es l P) (h2 : SR X es l2 P) : SS X es (.If c l l2 pos) P := fun B C O σ H D S G =>
  wS_of (ps_if (pt_w c) (pss_w l) (pss_w l2)) (h B C O σ H S _ fun b H1 t => by
    cases b with
    | true => rw [if_pos rfl]; exact h1 B C O σ H1 D (S.turn hs t) G
    | false => rw [if_neg Bool.false_ne_true]; exact h2 B C O σ H1 D (S.turn hs t) G)
end

/-! ### comprehensions -/
def EvS (te : TE) (es : List Sl) (st : Addr) (R : PyData → Prop) : Prop := ∀ (B : Hp) (C O : Addr → Prop) (σ : L2.St) (H : Hp), Sit B C O H σ es → ∀ Q : VK, (∀ v H' d, Turned st H H' → R d → Rp (hid O H') v d → Q v H') → te σ H Q
def FSrcT (X : Cx) (es : List Sl) (st : Addr) (wi : TI) (N : List PyData → Prop) : Prop := ∀ (B : Hp) (C O : Addr → Prop) (σ : L2.St) (H : Hp), Sit B C O H σ es → ∀ R : It → Hp → Prop, (∀ J H1 items, Turned st H H1 → N items → SrcJ (hid O H1) O H1 J items → R J H1) → wi σ H R
theorem lc_turn {X : Cx} {es : List Sl} {st : Addr} {j : Nat} {wi : TI} {g : TG} {te : TE} {vs is : List Nat} {N : List PyData → Prop} {F : PyData → List Sl → List Sl} {Re : PyData → Prop} (hs : es[j]? = some (.two st)) (hno : NoMine es j)
    (src : FSrcT X es st wi N) (ga : ∀ items, N items → ∀ d ∈ items, GA g d (F d) is) (his : ∀ i ∈ is, i ∈ vs) (he : ∀ items, N items → ∀ d ∈ items, EvS te (F d (wipeE es vs)) st Re) (hz : ∀ items, N items → items.length ≤ 100000)
    {B : Hp} {C O : Addr → Prop} {σ : L2.St} {H : Hp} (S : Sit B C O H σ es) {Q : VK} (q : ∀ p xs H' ds items, H p = none → Turned st H H' → H' p = some (.lst xs) → RpAll (hid (fun a => O a ∨ a = p) H') xs ds → N items → ds.length = items.length → (∀ d ∈ ds, Re d) → Q (.ref p) H') : tLc wi g tYes te vs σ H Q := by
  refine src B C O σ H S _ fun J H1 items t1 hN jj D hD => ?_
  have S1 := S.turn hs t1
  have hDst : D ≠ st := S1.ne hs hD
  have hBD : B D = none := by
    cases hq : B D with
    | none => rfl
    | some o => have := S1.base D o hq; rw [hD] at this; cases this
  have S1' : Sit B C (fun a => O a ∨ a = D) (upd H1 D (.lst [])) σ es := S1.hide hD (Ex.new hD) upd_same
  refine ⟨fun i m H2 => m = items.length - i ∧ i ≤ items.length ∧ Turned st H1 H2 ∧ ∃ acc ds, H2 D = some (.lst acc) ∧ RpAll (hid (fun a => O a ∨ a = D) H2) acc ds ∧ ds.length = i ∧ ∀ d ∈ ds, Re d, ⟨items.length, by omega, Nat.zero_le _, ?_, [], [], upd_same, .nil, rfl, fun d hd => by cases hd⟩, ?_⟩
  · exact S1.still hs (Ex.new hD)
  rintro i m H2 ⟨rfl, hi, t2, acc, ds, hacc, ra, hdl, hRe⟩
  have S2 : Sit B C (fun a => O a ∨ a = D) H2 σ es := S1'.pokeT hs hno (.inr rfl) hBD (fun a o c1 c2 h => t2.keep a o c1 (by rw [upd_ne c2] at h; exact h)) hacc t2.two
  have ex2 : Ex (hid O H1) (hid (fun a => O a ∨ a = D) H2) := fun a o h => by
    obtain ⟨h1, h2⟩ := hid_some.mp h
    refine hid_some.mpr ⟨fun z => z.elim h1 fun z => ?_, t2.keep a o (fun z => h1 (by rw [z]; exact (S1.tw hs).1.own)) h2⟩
    rw [z, hD] at h2; cases h2
  by_cases hlt : i < items.length
  · refine .inr ⟨jj.go i hlt H2 (ex2.trans hid_sub), fun H3 => i + 1 ≤ items.length ∧ Turned st H1 H3 ∧ ∃ acc ds, H3 D = some (.lst acc) ∧ RpAll (hid (fun a => O a ∨ a = D) H3) acc ds ∧ ds.length = i + 1 ∧ ∀ d ∈ ds, Re d, fun H3 h3 => ⟨items.length - (i + 1), by omega, rfl, h3⟩, fun x H3 y => ?_⟩
    have hd : items[i]? = some items[i] := List.getElem?_eq_getElem hlt
    have hmem : items[i] ∈ items := List.getElem_mem hlt
    generalize hdd : items[i] = d at hd hmem
    obtain ⟨e3, rx⟩ := jj.yld i d hd H2 x H3 (ex2.trans hid_sub) y
    have rx := rx (fun a => O a ∨ a = D) ex2 S2.dom
    refine ga items hN d hmem B C _ (wipe σ vs) H3 (wipeE es vs) x ((S2.mono e3).wipe vs) rx _ fun σ' S3 hw => ⟨?_, ?_⟩
    · rw [hw vs his, wipe_wipe fun i h => h]
    unfold tYes
    dsimp only
    rw [if_pos rfl]
    refine he items hN d hmem B C _ σ' H3 S3 _ fun v H4 dd t4 hdd' rv => ?_
    have t5 : Turned st H1 H4 := (t2.ex e3).trans t4
    have ex4 : Ex (hid (fun a => O a ∨ a = D) H2) (hid (fun a => O a ∨ a = D) H4) := fun a o h => by
      obtain ⟨h1, h2⟩ := hid_some.mp h
      exact hid_some.mpr ⟨h1, t4.keep a o (fun z => h1 (.inl (by rw [z]; exact (S1.tw hs).1.own))) (e3 _ _ h2)⟩
    have al : acc.length = ds.length := ra.len
    have hz' := hz items hN
    refine ⟨acc, t4.keep _ _ hDst (e3 _ _ hacc), Nat.lt_of_lt_of_le (show acc.length < 100001 by omega) (by decide), hlt, ⟨fun a o c h => ?_, ?_⟩, acc ++ [v], ds ++ [dd], upd_same, ?_, ?_, fun d hd => ?_⟩
    · rw [upd_ne fun z => by rw [z, hD] at h; cases h]
      exact t5.keep a o c h
    · obtain ⟨a, b, h⟩ := t5.two
      exact ⟨a, b, by rw [upd_ne (Ne.symm hDst)]; exact h⟩
    · rw [hid_upd (.inr rfl)]
      exact (ra.mono ex4).append (.cons rv .nil)
    · rw [List.length_append, hdl]; rfl
    · rcases List.mem_append.mp hd with h | h
      · exact hRe d h
      · rw [List.mem_singleton.mp h]; exact hdd'
  · have hi' : i = items.length := by omega
    subst hi'
    have hH : H D = none := by
      cases hq : H D with
      | none => rfl
      | some o => have := t1.keep D o hDst hq; rw [hD] at this; cases this
    exact .inl ⟨jj.stop H2 (ex2.trans hid_sub), q D acc H2 ds items hH (t1.trans t2) hacc ra hN hdl hRe⟩
section
variable {X : Cx} {es : List Sl} {st : Addr} {elt tg iter : Expr} {scope : Scope} {own : List (Str × Nat)} {pos : Pos} {wi : TI} {g : TG} {is : List Nat} {F : PyData → List Sl → List Sl} {j : Nat} {N : List PyData → Prop} {Re : PyData → Prop}
theorem ev_s {es' : List Sl} (h : ∀ (s : Shared) (H0 : Hp) (C : Addr) (cl : List (Str × Addr)) (fp : List Addr), SVt (X.blk s H0 scope (compEnvC scope cl C X.env) fp) es' st elt Re) : EvS (wEb X scope elt) es' st Re := fun B C O σ H S Q q s H0 C0 cl fp => h s H0 C0 cl fp B C O σ H S Q q
theorem slt_lc (hN : X.N.Nodup) (hs : es[j]? = some (.two st)) (hno : NoMine es j) (hi : PI X tg iter wi) (src : FSrcT X es st wi N) (ok : BlkOk X.N X.env.scope scope own)
    (hg : ∀ (s : Shared) (H : Hp) (C : Addr) (cl : List (Str × Addr)) (fp : List Addr), PG (X.blk s H scope (compEnvC scope cl C X.env) fp) tg g)
    (ga : ∀ items, N items → ∀ d ∈ items, GA g d (F d) is) (his : ∀ i ∈ is, i ∈ own.map (·.2))
    (he : ∀ (s : Shared) (H : Hp) (C : Addr) (cl : List (Str × Addr)) (fp : List Addr), ∀ items, N items → ∀ d ∈ items, SVt (X.blk s H scope (compEnvC scope cl C X.env) fp) (F d (wipeE es (own.map (·.2)))) st elt Re) (hz : ∀ items, N items → items.length ≤ 100000) (hc : X.calm = true := by rfl) (hf : ∀ x, foldedSetIterable iter X.env x = pure x := by intro _; rfl) :
    SLt X es st (.ListComp elt [⟨tg, iter, [], 0⟩] scope pos) fun ds => ∃ items, N items ∧ ds.length = items.length ∧ ∀ d ∈ ds, Re d := fun B C O σ H S Q q =>
  wE_of (pe_lc hc hN hi ok hg (fun _ _ _ _ _ => pts_nil) (te := wEb X scope elt) (fun s H C cl fp => ⟨fun pins s' σ H Q I h => h s _ C cl fp pins s' I⟩) hf)
    (lc_turn hs hno src ga his (fun items hN d hd => ev_s fun s H0 C0 cl fp => he s H0 C0 cl fp items hN d hd) hz S fun p xs H' ds items h1 t h3 r hN hl hRe => q p xs H' ds h1 t h3 r ⟨items, hN, hl, hRe⟩)
theorem FSrc.t {items : List PyData} (hs : es[j]? = some (.two st)) (h : FSrc X es wi items) : FSrcT X es st wi (· = items) := fun B C O σ H S R q => h B C O σ H S R fun J H1 e1 jj => q J H1 items (S.still hs e1) rfl jj
theorem fsrc_rngT {e : Expr} {most : Int} (hs : es[j]? = some (.two st)) (h : SVt X es st e fun d => ∃ n : Int, 0 ≤ n ∧ n ≤ most ∧ d = .int n) (h1 : most ≤ 100000) (hst : starEach [e] X.env = (false, eval e X.env) :: starEach [] X.env := by rfl) : FSrcT X es st (iRng1 (wA X [e])) fun items => ∃ n : Int, 0 ≤ n ∧ n ≤ most ∧ items = rng 0 n.toNat := fun B C O σ H S R q => wA_one (h B C O σ H S _ fun v H1 d t hd r => by
  obtain ⟨n, h0, h2, rfl⟩ := hd
  cases rp_int r
  exact ⟨n, rfl, by omega, by omega, q _ H1 _ t ⟨n, h0, h2, rfl⟩ srcj_rng⟩) hst
end
end PcW
set_option Elab.async false
set_option linter.all false
set_option maxRecDepth 100000
set_option maxHeartbeats 4000000
/-! The law's drawing: state, take, element, prime, width, rows. -/
namespace PcW
open PySem PySem.Spec PyProof.Rows L2 PcLin
section
variable {P : Program} {w : World} {K : PySem.W.Frag} {mg : Str → Option Value} {base : Heap} {f : Addr} {fd : FuncData}
/-! ### _law_state -/
theorem scLState : FnScope ["_law_script", "_law_seed", "_law_total_here", "_law_cell"] ["_law_script"] (defScope sLState) := ⟨rfl, rfl, rfl, by decide +kernel, rfl, by decide +kernel, by decide +kernel⟩
def spState (K : PySem.W.Frag) : Sp := fun vs H Q _ => ∃ (a : Addr) (ns : List Int), vs = [.ref a] ∧ SqL K H a (ns.map V.int) ∧ ∀ p x y H', H p = none → Ex H H' → H' p = some (.lst [.int x, .int y]) → Q (.ref p) H'
theorem cut63 (xs : List V) (k : Nat) : cutV xs none (some (k : Int)) = xs.take k := by
  unfold cutV
  rw [HT.sIx_none, show HT.sIx xs.length xs.length (some (k : Int)) = min k xs.length from HT.sIx_nat _ _ _, List.drop_zero, Nat.sub_zero]
  by_cases c : k ≤ xs.length
  · rw [Nat.min_eq_left c]
  · rw [Nat.min_eq_right (by omega), List.take_of_length_le (Nat.le_refl _), List.take_of_length_le (by omega)]
theorem ok_state (F : Fun K "_law_state" "_law_state" sLState f fd) (T : Bi mg) : FnOk P w K mg base CX0 1 f fd ["_law_script"] (spState K) := by
  refine F.ok scLState (fun vs H Q E h => ?_) fun cdv A outer s H vs Q E hr h => ?_
  · obtain ⟨a, ns, rfl, _⟩ := h; rfl
  · obtain ⟨a, ns, rfl, hS, q⟩ := h
    refine ⟨_, pss_cons (ps_set (i := 1) scLState.nd rfl (.inl rfl) pe_int) (pss_cons (ps_set (i := 2) scLState.nd rfl (.inl rfl) pe_int)
      (pss_cons (ps_for PassesOwn.never rfl (pi_list (pe_slice sl_list (pv 0) po_none (po_some pe_int))) (pg_name (i := 3) scLState.nd rfl (.inl rfl))
        (pss_cons (ps_set (i := 1) scLState.nd rfl (.inl rfl) (pe_op op_add (pe_op op_mul (pv 1) pe_int) (pe_callB call_abs (by rfl) T.abs (by decide +kernel) (pa_cons (pv 3) pa_nil))))
        (pss_one (ps_set (i := 2) scLState.nd rfl (.inl rfl) (pe_op op_mod (pe_callTy call_int1 (by rfl) T.int (by decide +kernel) (pa_cons (pe_op op_add (pe_op op_mul (pv 2) pe_int) (pv 3)) pa_nil)) pe_int)))))
      (pss_one (ps_ret (pe_lst (pa_cons (pv 1) (pa_cons (pv 2) pa_nil))))))), ?_⟩
    refine ⟨.ref a, rfl, 63, rfl, a, ns.map V.int, rfl, hS, fun c nc => ?_⟩
    rw [show (63 : Int) = ((63 : Nat) : Int) from rfl, cut63, ← List.map_take]
    generalize ns.take 63 = ms
    have e1 : Ex H (upd H c (.lst (ms.map V.int))) := Ex.new nc
    have hC : SqL K (upd H c (.lst (ms.map V.int))) c (ms.map V.int) := SqL.of upd_same
    generalize upd H c (.lst (ms.map V.int)) = H1 at e1 hC
    refine ⟨c, rfl, ⟨_, hC⟩, fun i m σ H2 => H2 = H1 ∧ i + m = ms.length ∧ ∃ x y z, σ = [some (.ref a), some (.int x), some (.int y), z], ⟨ms.length, rfl, by omega, 0, 1, none, rfl⟩, ?_⟩
    rintro i m σ H2 ⟨rfl, him, x, y, z, rfl⟩
    by_cases hi : i < ms.length
    · have g : (ms.map V.int)[i]? = some (.int ms[i]) := by rw [List.getElem?_map, List.getElem?_eq_getElem hi]; rfl
      refine .inr ⟨⟨_, _, hC, g⟩, fun σ' H' => H' = H2 ∧ ∃ x y z, σ' = [some (.ref a), some (.int x), some (.int y), z], fun σ' H' hN => ⟨m - 1, by omega, hN.1, by omega, hN.2⟩, fun v H' hy => ?_⟩
      obtain ⟨rfl, fv⟩ := hy
      obtain rfl : v = .int ms[i] := Option.some.inj ((fv _ hC).symm.trans g)
      refine ⟨.int x, rfl, x, 1000003, rfl, rfl, .inr ⟨by decide, by decide⟩, .int ms[i], rfl, ms[i], rfl, _, _, rfl, rfl, ?_⟩
      refine ⟨.int y, rfl, y, 48271, rfl, rfl, .inr ⟨by decide, by decide⟩, .int ms[i], rfl, _, _, rfl, rfl, .inl ⟨_, rfl, _, 2147483647, rfl, rfl, (show (0 : Int) < 2147483647 by decide), rfl, _, _, _, rfl⟩⟩
    · refine .inl ⟨⟨_, hC, by rw [List.length_map]; omega⟩, .int x, rfl, .int y, rfl, Nat.le_of_ble_eq_true rfl, fun p hp => ?_⟩
      exact q p x y _ (fresh_back e1 hp) (e1.trans (Ex.new hp)) upd_same
/-! ### _law_take -/
theorem scLTake : FnScope ["_law_state_here", "_law_m", "_law_value"] ["_law_state_here", "_law_m"] (defScope sLTake) := ⟨rfl, rfl, rfl, by decide +kernel, rfl, by decide +kernel, by decide +kernel⟩
def OkTake : List PyData → Prop := fun ds => ∃ m : Int, 0 < m ∧ m < 1073741824 ∧ ds = [.int m]
def RTake : List PyData → PyData → Prop := fun ds d => ∃ m x : Int, ds = [.int m] ∧ 0 ≤ x ∧ x < m ∧ d = .int x
theorem ok_take (F : Fun K "_law_take" "_law_take" sLTake f fd) (T : Bi mg) : FnOk P w K mg base CX0 1 f fd ["_law_state_here", "_law_m"] (spS OkTake RTake) := by
  refine F.ok scLTake (fun vs H Q E h => ?_) fun cdv A outer s H vs Q E hr h => ?_
  · obtain ⟨C, st, x, y, us, ds, rfl, _, _, _, r, ⟨m, _, _, rfl⟩, _⟩ := h
    cases r with
    | cons r rr => cases rr; rfl
  · obtain ⟨C, st, x, y, us, ds, rfl, hC, dm, hst, r, ⟨m, hm, hm2, rfl⟩, q⟩ := h
    obtain rfl : us = [.int m] := rpAll_ints (ns := [m]) r
    refine ⟨_, pss_cons (ps_if (pt_cmpR op_gt (pe_ix ix_list (pv 0) pe_int (fun _ _ => rfl)) pe_int (nomark _))
        (pss_cons (ps_set (i := 2) scLTake.nd rfl (.inl rfl) (pe_op op_mod (pe_callTy call_int1 (by rfl) T.int (by decide +kernel) (pa_cons (pe_ix ix_list (pv 0) pe_int (fun _ _ => rfl)) pa_nil)) (pv 1)))
        (pss_cons (ps_asg (pe_op op_fdiv (pe_ix ix_list (pv 0) pe_int (fun _ _ => rfl)) (pv 1)) (pg_sub (pv 0) pe_int set_list)) (pss_one (ps_ret (pv 2))))) pss_nil)
      (pss_cons (ps_asg (pe_op op_mod (pe_callTy call_int1 (by rfl) T.int (by decide +kernel) (pa_cons (pe_op op_add (pe_op op_mul (pe_ix ix_list (pv 0) pe_int (fun _ _ => rfl)) pe_int) pe_int) pa_nil)) pe_int) (pg_sub (pv 0) pe_int set_list))
      (pss_one (ps_ret (pe_op op_mod (pe_callTy call_int1 (by rfl) T.int (by decide +kernel) (pa_cons (pe_op op_fdiv (pe_ix ix_list (pv 0) pe_int (fun _ _ => rfl)) pe_int) pa_nil)) (pv 1))))), ?_⟩
    have hS : SqL K H st [.int x, .int y] := SqL.of hst
    have z0 : atI [V.int x, .int y] 0 = some (.int x) := atI_nat (j := 0) rfl
    have z1 : ∀ {y : Int}, atI [V.int x, .int y] 1 = some (.int y) := atI_nat (j := 1) rfl
    have fin : ∀ (a b : Int) (xs : List V) (v : V) (x0 : Int), xs = [.int a, .int b] → v = .int x0 → 0 ≤ x0 → x0 < m → Q v (upd H st (.lst xs)) := fun a b xs v x0 e1 e2 h1 h2 => by
      subst e1 e2
      exact q _ _ (.int x0) (fun c o hc h => by rw [upd_ne hc]; exact h) ⟨a, b, upd_same⟩ ⟨m, x0, rfl, h1, h2, rfl⟩ (.int _)
    refine ⟨.ref st, rfl, st, _, 0, _, rfl, rfl, hS, z0, x, 0, rfl, rfl, _, rfl, ite2 (fun _ => ?_) (fun _ => ?_)⟩
    · refine ⟨.ref st, rfl, st, _, 0, _, rfl, rfl, hS, z0, .inl ⟨x, rfl, .int m, rfl, x, m, rfl, rfl, hm, ?_⟩⟩
      refine ⟨.ref st, rfl, st, _, 0, _, rfl, rfl, hS, z0, .int m, rfl, x, m, rfl, rfl, ⟨by omega, hm2⟩, .ref st, rfl, st, _, 0, 0, rfl, rfl, hst, rfl, ?_⟩
      exact ⟨_, rfl, fin _ y _ _ _ rfl rfl (Int.emod_nonneg x (by omega)) (Int.emod_lt_of_pos x hm)⟩
    · refine ⟨.ref st, rfl, st, _, 1, _, rfl, rfl, hS, z1, y, 48271, rfl, rfl, .inr ⟨by decide, by decide⟩, _, 11, rfl, rfl, .inl ⟨_, rfl, _, 2147483647, rfl, rfl, (show (0 : Int) < 2147483647 by decide), .ref st, rfl, st, _, 1, 1, rfl, rfl, hst, rfl, ?_⟩⟩
      refine ⟨.ref st, rfl, st, _, 1, _, rfl, rfl, SqL.of upd_same, z1, _, 7, rfl, rfl, ⟨by decide, by decide⟩, .inl ⟨_, rfl, .int m, rfl, _, m, rfl, rfl, hm, ?_⟩⟩
      exact fin x _ _ _ _ rfl rfl (Int.emod_nonneg _ (by omega)) (Int.emod_lt_of_pos _ hm)
end
end PcW
set_option Elab.async false
set_option linter.all false
set_option maxRecDepth 100000
set_option maxHeartbeats 4000000
/-! element, prime, width, rows. -/
namespace PcW
open PySem PySem.Spec PyProof.Rows L2 PcLin
theorem pr_of {p : Nat} (h : p = 2 ∨ p = 3 ∨ p = 5 ∨ p = 7 ∨ p = 31) : Pr p := by
  have key : ∀ p ∈ [2, 3, 5, 7, 31], ∀ a ∈ List.range p, a = 0 ∨ ∃ k ∈ List.range (p - 1), a * (1 + k) % p = 1 := by decide +kernel
  have hm : p ∈ [2, 3, 5, 7, 31] := by
    rcases h with rfl | rfl | rfl | rfl | rfl <;> decide
  refine ⟨by omega, by omega, fun a h0 h1 => ?_⟩
  have e : a = ((a.toNat : Nat) : Int) := by omega
  rcases key p hm a.toNat (List.mem_range.mpr (by omega)) with z | ⟨k, hk, e2⟩
  · omega
  · refine ⟨k, by have := List.mem_range.mp hk; omega, ?_⟩
    rw [e]
    exact_mod_cast congrArg (fun n : Nat => (n : Int)) e2
def Five (p : Nat) : Prop := p = 2 ∨ p = 3 ∨ p = 5 ∨ p = 7 ∨ p = 31
theorem ints_of {p : Nat} {ds : List PyData} (h : ∀ d ∈ ds, RTake [.int (p : Int)] d) : ∃ r : IRow, ds = r.map .int ∧ ∀ x ∈ r, 0 ≤ x ∧ x < (p : Int) := by
  induction ds with
  | nil => exact ⟨[], rfl, fun x hx => by cases hx⟩
  | cons d ds ih =>
    obtain ⟨r, rfl, hr⟩ := ih fun d hd => h d (List.mem_cons_of_mem _ hd)
    obtain ⟨m, x, e, h0, h1, rfl⟩ := h d List.mem_cons_self
    cases e
    exact ⟨x :: r, rfl, fun y hy => (List.mem_cons.mp hy).elim (fun e => e ▸ ⟨h0, h1⟩) (hr y)⟩
section
variable {P : Program} {w : World} {K : PySem.W.Frag} {mg : Str → Option Value} {base : Heap} {f : Addr} {fd : FuncData}
theorem scLElement : FnScope ["_law_state_here", "_law_p", "_law_n", "_law_k"] ["_law_state_here", "_law_p", "_law_n"] (defScope sLElement) := ⟨rfl, rfl, rfl, by decide +kernel, rfl, by decide +kernel, by decide +kernel⟩
def OkEl : List PyData → Prop := fun ds => ∃ p n : Nat, 0 < p ∧ p ≤ 1000 ∧ n ≤ 1000 ∧ ds = [.int (p : Int), .int (n : Int)]
def REl : List PyData → PyData → Prop := fun ds d => ∃ (p n : Nat) (r : IRow), ds = [.int (p : Int), .int (n : Int)] ∧ W p n r ∧ d = dRow r
theorem ok_element (F : Fun K "_law_element" "_law_element" sLElement f fd) (T : Bi mg) (Gt : Fc P w K mg base 1 "_law_take" ["_law_state_here", "_law_m"] (spS OkTake RTake)) : FnOk P w K mg base CX0 2 f fd ["_law_state_here", "_law_p", "_law_n"] (spS OkEl REl) := by
  refine fn_state F scLElement (fun ds h => by obtain ⟨p, n, _, _, _, rfl⟩ := h; rfl) fun cdv A outer s H E ds st hr h => ?_
  obtain ⟨p, n, hp, hp2, hn, rfl⟩ := h
  refine sr_cons (ss_retS (j := 0) rfl (svt_tup (j := 0) rfl T.tuple (slt_lc (j := 0) (own := [("_law_k", 3)]) (F := F1 3) (is := [3]) (N := (· = rng 0 (n : Int).toNat)) scLElement.nd rfl rfl (pi_range1 (by rfl) T.range (pa_w _)) (FSrc.t (j := 0) rfl (fsrc_rng1 (pv_var 2) (by omega) (by omega)))
    (blkOk_by (N := ["_law_state_here", "_law_p", "_law_n", "_law_k"]) (sc := defScope sLElement) (by decide +kernel)) (fun _ _ _ _ _ => pg_one (i := 3) scLElement.nd rfl rfl) (fun _ _ d hd => ga1) (by decide)
    (fun s H C cl fp items hi d hd => svt_call 0 Gt hr rfl (pvs_cons (pv_var 1) pvs_nil) ⟨(p : Int), by omega, by omega, rfl⟩) (fun items hi => ?_))) fun d hd => ?_)
  · rw [hi, rng_len]; omega
  · obtain ⟨ds, ⟨items, rfl, hl, hR⟩, rfl⟩ := hd
    obtain ⟨r, rfl, hr'⟩ := ints_of hR
    refine ⟨rfl, p, n, r, rfl, ⟨?_, hr'⟩, rfl⟩
    rw [rng_len, List.length_map] at hl
    omega
theorem scLPrime : FnScope ["_law_state_here"] ["_law_state_here"] (defScope sLPrime) := ⟨rfl, rfl, rfl, by decide +kernel, rfl, by decide +kernel, by decide +kernel⟩
def RPrime : List PyData → PyData → Prop := fun ds d => ∃ p : Nat, Five p ∧ d = .int (p : Int)
theorem ok_prime (F : Fun K "_law_prime" "_law_prime" sLPrime f fd) (T : Bi mg) (Gt : Fc P w K mg base 1 "_law_take" ["_law_state_here", "_law_m"] (spS OkTake RTake)) : FnOk P w K mg base CX0 2 f fd ["_law_state_here"] (spS (· = []) RPrime) := by
  refine fn_state F scLPrime (fun ds h => by rw [h]; rfl) fun cdv A outer s H E ds st hr h => ?_
  subst h
  refine sr_cons (ss_retS (j := 0) rfl (svt_ixI (j := 0) (ns := [2, 2, 3, 3, 5, 7, 31]) rfl (pf_lst (pvs_cons pv_int (pvs_cons pv_int (pvs_cons pv_int (pvs_cons pv_int (pvs_cons pv_int (pvs_cons pv_int (pvs_cons pv_int pvs_nil))))))) (hl := Nat.le_of_ble_eq_true rfl))
    (SVt.mono (svt_call 0 Gt hr rfl (pvs_cons pv_int pvs_nil) ⟨7, by decide, by decide, rfl⟩) fun d hd => ?_)) fun d hd => ?_)
  · obtain ⟨m, x, e, h0, h1, rfl⟩ := hd
    cases e
    exact ⟨x.toNat, by show x.toNat < 7; omega, by rw [Int.toNat_of_nonneg h0]⟩
  · obtain ⟨k, hk, rfl⟩ := hd
    refine ⟨rfl, ?_⟩
    have hk : k < 7 := hk
    rcases (show k = 0 ∨ k = 1 ∨ k = 2 ∨ k = 3 ∨ k = 4 ∨ k = 5 ∨ k = 6 by omega) with rfl | rfl | rfl | rfl | rfl | rfl | rfl
    · exact ⟨2, .inl rfl, rfl⟩
    · exact ⟨2, .inl rfl, rfl⟩
    · exact ⟨3, .inr (.inl rfl), rfl⟩
    · exact ⟨3, .inr (.inl rfl), rfl⟩
    · exact ⟨5, .inr (.inr (.inl rfl)), rfl⟩
    · exact ⟨7, .inr (.inr (.inr (.inl rfl))), rfl⟩
    · exact ⟨31, .inr (.inr (.inr (.inr rfl))), rfl⟩
theorem scLWidth : FnScope ["_law_state_here", "_law_p"] ["_law_state_here", "_law_p"] (defScope sLWidth) := ⟨rfl, rfl, rfl, by decide +kernel, rfl, by decide +kernel, by decide +kernel⟩
def RWidth : List PyData → PyData → Prop := fun ds d => ∃ p n : Nat, ds = [.int (p : Int)] ∧ p ^ n ≤ 343 ∧ n ≤ 4 ∧ d = .int (n : Int)
def wTop (p : Nat) : Int := if p < 8 then ([0, 0, 5, 5, 0, 4, 0, 4] : List Int).getD p 0 else 2
theorem ok_width (F : Fun K "_law_width" "_law_width" sLWidth f fd) (T : Bi mg) (Gt : Fc P w K mg base 1 "_law_take" ["_law_state_here", "_law_m"] (spS OkTake RTake)) : FnOk P w K mg base CX0 2 f fd ["_law_state_here", "_law_p"] (spS (fun ds => ∃ p, Five p ∧ ds = [.int (p : Int)]) RWidth) := by
  refine fn_state F scLWidth (fun ds h => by obtain ⟨p, _, rfl⟩ := h; rfl) fun cdv A outer s H E ds st hr h => ?_
  obtain ⟨p, hp, rfl⟩ := h
  have top : 0 < wTop p ∧ wTop p < 1073741824 ∧ (∀ n : Nat, (n : Int) < wTop p → p ^ n ≤ 343 ∧ n ≤ 4) := by
    have pw : ∀ (b m : Nat) (h : 0 < b) (hm : b ^ m ≤ 343) (h4 : m ≤ 4), ∀ n : Nat, (n : Int) < (m : Int) + 1 → b ^ n ≤ 343 ∧ n ≤ 4 := fun b m h hm h4 n hn => ⟨Nat.le_trans (Nat.pow_le_pow_right h (by omega)) hm, by omega⟩
    rcases hp with rfl | rfl | rfl | rfl | rfl
    · exact ⟨by decide, by decide, pw 2 4 (by decide) (by decide) (by decide)⟩
    · exact ⟨by decide, by decide, pw 3 4 (by decide) (by decide) (by decide)⟩
    · exact ⟨by decide, by decide, pw 5 3 (by decide) (by decide) (by decide)⟩
    · exact ⟨by decide, by decide, pw 7 3 (by decide) (by decide) (by decide)⟩
    · exact ⟨by decide, by decide, pw 31 1 (by decide) (by decide) (by decide)⟩
  refine sr_cons (ss_retS (j := 0) rfl (SVt.mono (svt_call 0 Gt hr rfl (pvs_cons (d := .int (wTop p)) (pv_ifE (x := decide ((p : Int) < 8)) (pb_ltI (pv_var 1) pv_int) (fun hb => ?_) (fun hb => ?_)) pvs_nil) ⟨wTop p, top.1, top.2.1, rfl⟩) fun d hd => hd) fun d hd => ?_)
  · have hlt : (p : Int) < 8 := of_decide_eq_true hb
    have hp8 : p < ([0, 0, 5, 5, 0, 4, 0, 4] : List Int).length := by show p < 8; omega
    refine pv_ixL (ds := ([0, 0, 5, 5, 0, 4, 0, 4] : List Int).map .int) (PF.pl (pf_lst (pvs_cons pv_int (pvs_cons pv_int (pvs_cons pv_int (pvs_cons pv_int (pvs_cons pv_int (pvs_cons pv_int (pvs_cons pv_int (pvs_cons pv_int pvs_nil)))))))) (hl := Nat.le_of_ble_eq_true rfl))) (pv_var 1) ?_
    rw [map_at hp8]
    unfold wTop
    rw [if_pos (by omega)]
  · have hlt : ¬ (p : Int) < 8 := of_decide_eq_false hb
    have : wTop p = 2 := by unfold wTop; rw [if_neg (by omega)]
    rw [this]
    exact pv_int
  · obtain ⟨m, x, e, h0, h1, rfl⟩ := hd
    cases e
    obtain ⟨b1, b2⟩ := top.2.2 x.toNat (by omega)
    exact ⟨rfl, p, x.toNat, rfl, b1, b2, by rw [Int.toNat_of_nonneg h0]⟩
theorem scLRows : FnScope ["_law_state_here", "_law_p", "_law_n", "_law_most", "_law_k"] ["_law_state_here", "_law_p", "_law_n", "_law_most"] (defScope sLRows) := ⟨rfl, rfl, rfl, by decide +kernel, rfl, by decide +kernel, by decide +kernel⟩
def OkRows : List PyData → Prop := fun ds => ∃ p n m : Nat, 0 < p ∧ p ≤ 1000 ∧ n ≤ 1000 ∧ m ≤ 1000 ∧ ds = [.int (p : Int), .int (n : Int), .int (m : Int)]
def RRows : List PyData → PyData → Prop := fun ds d => ∃ (p n m : Nat) (rs : List IRow), ds = [.int (p : Int), .int (n : Int), .int (m : Int)] ∧ rs.length ≤ m ∧ (∀ r ∈ rs, W p n r) ∧ d = dRows rs
theorem rows_of {p n : Nat} {ds : List PyData} (h : ∀ d ∈ ds, REl [.int (p : Int), .int (n : Int)] d) : ∃ rs : List IRow, ds = rs.map dRow ∧ ∀ r ∈ rs, W p n r := by
  induction ds with
  | nil => exact ⟨[], rfl, fun x hx => by cases hx⟩
  | cons d ds ih =>
    obtain ⟨rs, rfl, hr⟩ := ih fun d hd => h d (List.mem_cons_of_mem _ hd)
    obtain ⟨p', n', r, e, hw, rfl⟩ := h d List.mem_cons_self
    obtain ⟨e1, e2⟩ : (p : Int) = p' ∧ (n : Int) = n' := by
      simp only [List.cons.injEq, PyData.int.injEq, and_true] at e
      exact e
    obtain rfl : p = p' := by omega
    obtain rfl : n = n' := by omega
    exact ⟨r :: rs, rfl, fun y hy => (List.mem_cons.mp hy).elim (fun e => e ▸ hw) (hr y)⟩
theorem ok_rows (F : Fun K "_law_rows" "_law_rows" sLRows f fd) (T : Bi mg) (Gt : Fc P w K mg base 1 "_law_take" ["_law_state_here", "_law_m"] (spS OkTake RTake)) (Ge : Fc P w K mg base 2 "_law_element" ["_law_state_here", "_law_p", "_law_n"] (spS OkEl REl)) :
    FnOk P w K mg base CX0 3 f fd ["_law_state_here", "_law_p", "_law_n", "_law_most"] (spS OkRows RRows) := by
  refine fn_state F scLRows (fun ds h => by obtain ⟨p, n, m, _, _, _, _, rfl⟩ := h; rfl) fun cdv A outer s H E ds st hr h => ?_
  obtain ⟨p, n, m, hp, hp2, hn, hm, rfl⟩ := h
  refine sr_cons (ss_retS (j := 0) rfl (SLt.sv (j := 0) rfl (slt_lc (j := 0) (own := [("_law_k", 4)]) (F := F1 4) (is := [4]) scLRows.nd rfl rfl (pi_range1 (by rfl) T.range (pa_w _)) (fsrc_rngT (j := 0) (most := (m : Int)) rfl (SVt.mono (svt_call 0 Gt (hr.mono (by decide)) rfl (pvs_cons (pv_add (pv_var 3) pv_int) pvs_nil) ⟨(m : Int) + 1, by omega, by omega, rfl⟩) fun d hd => ?_) (by omega))
    (blkOk_by (N := ["_law_state_here", "_law_p", "_law_n", "_law_most", "_law_k"]) (sc := defScope sLRows) (by decide +kernel)) (fun _ _ _ _ _ => pg_one (i := 4) scLRows.nd rfl rfl) (fun _ _ d hd => ga1) (by decide)
    (fun s H C cl fp items hi d hd => svt_call 0 Ge hr rfl (pvs_cons (pv_var 1) (pvs_cons (pv_var 2) pvs_nil)) ⟨p, n, hp, hp2, hn, rfl⟩) (fun items hi => ?_))) fun d hd => ?_)
  · obtain ⟨m', x, e, h0, h1, rfl⟩ := hd
    simp only [List.cons.injEq, PyData.int.injEq, and_true] at e
    exact ⟨x, h0, by omega, rfl⟩
  · obtain ⟨k, h0, h1, rfl⟩ := hi
    rw [rng_len]; omega
  · obtain ⟨ds, ⟨items, ⟨k, h0, h1, rfl⟩, hl, hR⟩, rfl⟩ := hd
    obtain ⟨rs, rfl, hw⟩ := rows_of hR
    refine ⟨rfl, p, n, m, rs, rfl, ?_, hw, rfl⟩
    rw [rng_len, List.length_map] at hl
    omega
end
end PcW
set_option Elab.async false
set_option linter.all false
set_option maxRecDepth 100000
set_option maxHeartbeats 4000000
/-! Rows as data: equality, shape; the law's sum, multiple, zero. -/
namespace PcW
open PySem PySem.Spec PyProof.Rows L2 PcLin
theorem can_ints : ∀ r : List Int, PyData.canLayAll0 (r.map .int) = true
  | [] => by simp [PyData.canLayAll0]
  | x :: r => by
    show PyData.canLayAll0 (.int x :: r.map .int) = true
    rw [PyData.canLayAll0, can_ints r]; simp [PyData.canLay0]
theorem can_rows : ∀ rs : List IRow, PyData.canLayAll0 (rs.map dRow) = true
  | [] => by simp [PyData.canLayAll0]
  | r :: rs => by
    show PyData.canLayAll0 (dRow r :: rs.map dRow) = true
    rw [PyData.canLayAll0, can_rows rs, Bool.and_true]
    show PyData.canLay0 (.tuple (r.map .int)) = true
    rw [PyData.canLay0]; exact can_ints r
theorem dep_row (r : IRow) : (dRow r).depth = 1 := by
  show PyData.depth (.tuple (r.map .int)) = 1
  rw [PyData.depth, PySem.W.depth_ints]
theorem dep_rows : ∀ rs : List IRow, PyData.depthAll (rs.map dRow) ≤ 1
  | [] => by simp [PyData.depthAll]
  | r :: rs => by
    show PyData.depthAll (dRow r :: rs.map dRow) ≤ 1
    rw [PyData.depthAll, dep_row]
    have := dep_rows rs
    omega
theorem sh_row (r : IRow) : SeqAt.shaped (dRow r) = true := by
  unfold SeqAt.shaped
  rw [dep_row]
  show (PyData.canLay0 (.tuple (r.map .int)) && _) = true
  rw [PyData.canLay0, can_ints]; rfl
theorem sh_rows (rs : List IRow) : SeqAt.shaped (dRows rs) = true := by
  unfold SeqAt.shaped
  show (PyData.canLay0 (.list (rs.map dRow)) && decide (PyData.depth (.list (rs.map dRow)) ≤ 64)) = true
  rw [PyData.canLay0, can_rows, PyData.depth]
  have := dep_rows rs
  simp; omega
theorem sh_tab (rs : List IRow) : SeqAt.shaped (dTab rs) = true := by
  unfold SeqAt.shaped
  show (PyData.canLay0 (.tuple (rs.map dRow)) && decide (PyData.depth (.tuple (rs.map dRow)) ≤ 64)) = true
  rw [PyData.canLay0, can_rows, PyData.depth]
  have := dep_rows rs
  simp; omega
theorem sh_int (x : Int) : SeqAt.shaped (.int x) = true := by
  unfold SeqAt.shaped
  rw [PyData.canLay0, PyData.depth]; rfl
theorem eqv_ints : ∀ a b : List Int, PyData.eqvAll (a.map .int) (b.map .int) = (a == b)
  | [], [] => by simp [PyData.eqvAll]
  | [], _ :: _ => by simp [PyData.eqvAll]
  | _ :: _, [] => by simp [PyData.eqvAll]
  | x :: a, y :: b => by
    show PyData.eqvAll (.int x :: a.map .int) (.int y :: b.map .int) = _
    rw [PyData.eqvAll, eqv_ints a b]
    simp [PyData.eqv]
theorem eqv_row (a b : IRow) : PyData.eqv (dRow a) (dRow b) = (a == b) := by
  show PyData.eqv (.tuple (a.map .int)) (.tuple (b.map .int)) = _
  rw [PyData.eqv, eqv_ints]
theorem eqv_rowsA : ∀ a b : List IRow, PyData.eqvAll (a.map dRow) (b.map dRow) = (a == b)
  | [], [] => by simp [PyData.eqvAll]
  | [], _ :: _ => by simp [PyData.eqvAll]
  | _ :: _, [] => by simp [PyData.eqvAll]
  | x :: a, y :: b => by
    show PyData.eqvAll (dRow x :: a.map dRow) (dRow y :: b.map dRow) = _
    rw [PyData.eqvAll, eqv_rowsA a b, eqv_row]
    rfl
theorem eqv_rows (a b : List IRow) : PyData.eqv (dRows a) (dRows b) = (a == b) := by
  show PyData.eqv (.list (a.map dRow)) (.list (b.map dRow)) = _
  rw [PyData.eqv, eqv_rowsA]
theorem eqv_tab (a b : List IRow) : PyData.eqv (dTab a) (dTab b) = (a == b) := by
  show PyData.eqv (.tuple (a.map dRow)) (.tuple (b.map dRow)) = _
  rw [PyData.eqv, eqv_rowsA]
theorem eqv_int (x y : Int) : PyData.eqv (.int x) (.int y) = (x == y) := by rw [PyData.eqv]
theorem any_row (l : List IRow) (r : IRow) : ((l.map dRow).any fun z => PyData.eqv z (dRow r)) = l.contains r := by
  rw [Bool.eq_iff_iff, List.any_eq_true, List.contains_iff_mem]
  constructor
  · rintro ⟨d, hd, e⟩
    obtain ⟨x, hx, rfl⟩ := List.mem_map.mp hd
    rw [eqv_row, beq_iff_eq] at e
    rw [← e]; exact hx
  · exact fun h => ⟨dRow r, List.mem_map.mpr ⟨r, h, rfl⟩, by rw [eqv_row]; exact beq_self_eq_true r⟩
def oIx (f : Nat → Int) : PyData → PyData
  | .int k => .int (f k.toNat)
  | _ => .none
theorem rng_ix (f : Nat → Int) (n : Nat) : (rng 0 n).map (oIx f) = ((List.range n).map f).map .int := by
  unfold rng
  rw [List.map_map, List.map_map]
  refine List.map_congr_left fun k _ => ?_
  show PyData.int (f (0 + (k : Int)).toNat) = .int (f k)
  rw [Int.zero_add, Int.toNat_natCast]
theorem zip_ix (g : Int → Int → Int) {v u : List Int} (h : v.length = u.length) : (List.range v.length).map (fun k => g (v.getD k 0) (u.getD k 0)) = List.zipWith g v u := by
  refine List.ext_getElem (by rw [List.length_map, List.length_range, List.length_zipWith]; omega) fun i h1 h2 => ?_
  have hi : i < v.length := by rw [List.length_map, List.length_range] at h1; exact h1
  rw [List.getElem_map, List.getElem_range, List.getElem_zipWith, getD_at hi, getD_at (show i < u.length by omega)]
section
variable {P : Program} {w : World} {K : PySem.W.Frag} {mg : Str → Option Value} {base : Heap} {f : Addr} {fd : FuncData}
theorem scLSum : FnScope ["_law_v", "_law_w", "_law_p", "_law_k"] ["_law_v", "_law_w", "_law_p"] (defScope sLSum) := ⟨rfl, rfl, rfl, by decide +kernel, rfl, by decide +kernel, by decide +kernel⟩
def RLSum : List PyData → PyData → Prop := fun ds d => ∃ (p : Int) (v u : IRow), 0 < p ∧ v.length ≤ 1000 ∧ v.length = u.length ∧ ds = [dRow v, dRow u, .int p] ∧ d = dRow (addM p v u)
theorem ok_lsum (F : Fun K "_law_sum" "_law_sum" sLSum f fd) (T : Bi mg) : FnOk P w K mg base CX0 1 f fd ["_law_v", "_law_w", "_law_p"] (spF RLSum) := by
  refine fn_data F scLSum (fun ds d h => by obtain ⟨p, v, u, _, _, _, rfl, _⟩ := h; rfl) fun cdv A outer s H E ds d hr h => ?_
  obtain ⟨p, v, u, hp, hv, hl, rfl, rfl⟩ := h
  refine sr_cons (ss_ret (pv_tupL T.tuple (PF.pl (pf_is (pf_lc (own := [("_law_k", 3)]) (out := oIx fun k => (v.getD k 0 + u.getD k 0) % p) (F := F1 3) (is := [3]) scLSum.nd
    (pi_range1 (by rfl) T.range (pa_w _)) (FSrc.p (fsrc_rng1 (pv_lenT T.len (pv_var 0)) (by omega) (by rw [List.length_map]; omega))) (blkOk_by (N := ["_law_v", "_law_w", "_law_p", "_law_k"]) (sc := defScope sLSum) (by decide +kernel))
    (fun _ _ _ _ _ => pg_one (i := 3) scLSum.nd rfl rfl) (fun d hd => ga1) (by decide) (fun s H C cl fp d hd => ?_) ?_) (by rw [Int.toNat_natCast, List.length_map, rng_ix, zip_ix (fun x y => (x + y) % p) hl]; rfl)))) rfl)
  · obtain ⟨k, hk, rfl⟩ := rng_mem hd
    rw [Int.toNat_natCast, List.length_map] at hk
    rw [Int.zero_add]
    show PV _ _ _ (.int ((v.getD (k : Int).toNat 0 + u.getD (k : Int).toNat 0) % p))
    rw [Int.toNat_natCast]
    exact pv_mod hp (pv_intI T.int (pv_add (pv_ixT (pv_var 0) (pv_var 3) (map_at hk)) (pv_ixT (pv_var 1) (pv_var 3) (map_at (by omega))))) (pv_var 2)
  · rw [rng_len, List.length_map]; omega
theorem scLScaled : FnScope ["_law_v", "_law_a", "_law_p", "_law_x"] ["_law_v", "_law_a", "_law_p"] (defScope sLScaled) := ⟨rfl, rfl, rfl, by decide +kernel, rfl, by decide +kernel, by decide +kernel⟩
theorem ok_lscaled (F : Fun K "_law_scaled" "_law_scaled" sLScaled f fd) (T : Bi mg) : FnOk P w K mg base CX0 1 f fd ["_law_v", "_law_a", "_law_p"] (spF RScaled) := by
  refine fn_data F scLScaled (fun ds d h => by obtain ⟨p, a, v, _, _, _, rfl, _⟩ := h; rfl) fun cdv A outer s H E ds d hr h => ?_
  obtain ⟨p, a, v, hp, hv, sm, rfl, rfl⟩ := h
  refine sr_cons (ss_ret (pv_tupL T.tuple (PF.pl (pf_is (pf_lc (own := [("_law_x", 3)]) (out := o1 fun x => x * a % p) (F := F1 3) (is := [3]) scLScaled.nd
    (pi_tup (pe_w _)) (FSrc.p (fsrc_tup (pv_var 0))) (blkOk_by (N := ["_law_v", "_law_a", "_law_p", "_law_x"]) (sc := defScope sLScaled) (by decide +kernel))
    (fun _ _ _ _ _ => pg_one (i := 3) scLScaled.nd rfl rfl) (fun d hd => ga1) (by decide) (fun s H C cl fp d hd => ?_) ?_) (map_o1 _ v)))) rfl)
  · obtain ⟨x, hx, rfl⟩ := List.mem_map.mp hd
    exact pv_mod hp (pv_intI T.int (pv_mul (cmul_l (sm x hx)) (pv_var 3) (pv_var 1))) (pv_var 2)
  · rw [List.length_map]; omega
theorem scLZero : FnScope ["_law_n", "_law_k"] ["_law_n"] (defScope sLZero) := ⟨rfl, rfl, rfl, by decide +kernel, rfl, by decide +kernel, by decide +kernel⟩
def RLZero : List PyData → PyData → Prop := fun ds d => ∃ n : Nat, n ≤ 1000 ∧ ds = [.int (n : Int)] ∧ d = dRow (zeroM n)
theorem ok_lzero (F : Fun K "_law_zero" "_law_zero" sLZero f fd) (T : Bi mg) : FnOk P w K mg base CX0 1 f fd ["_law_n"] (spF RLZero) := by
  refine fn_data F scLZero (fun ds d h => by obtain ⟨n, _, rfl, _⟩ := h; rfl) fun cdv A outer s H E ds d hr h => ?_
  obtain ⟨n, hn, rfl, rfl⟩ := h
  refine sr_cons (ss_ret (pv_tupL T.tuple (PF.pl (pf_is (pf_lc (own := [("_law_k", 1)]) (out := fun _ => .int 0) (F := F1 1) (is := [1]) scLZero.nd
    (pi_range1 (by rfl) T.range (pa_w _)) (FSrc.p (fsrc_rng1 (pv_var 0) (by omega) (by omega))) (blkOk_by (N := ["_law_n", "_law_k"]) (sc := defScope sLZero) (by decide +kernel))
    (fun _ _ _ _ _ => pg_one (i := 1) scLZero.nd rfl rfl) (fun d hd => ga1) (by decide) (fun s H C cl fp d hd => pv_int) ?_) ?_))) rfl)
  · rw [rng_len]; omega
  · unfold zeroM
    rw [List.map_const', rng_len, Int.toNat_natCast, List.map_replicate]
end
end PcW
set_option Elab.async false
set_option linter.all false
set_option maxRecDepth 100000
set_option maxHeartbeats 4000000
/-! The law's span. -/
namespace PcW
open PySem PySem.Spec PyProof.Rows L2 PcLin
theorem lawStep_len {p : Nat} (hp : Pr p) (l : List IRow) (r : IRow) : (lawStep (p : Int) l r).length ≤ l.length * p := by
  unfold lawStep
  split
  · have := hp.lo
    exact Nat.le_mul_of_pos_right _ (by omega)
  · rw [ext_len]; exact Nat.le_refl _
theorem law_len {p : Nat} (hp : Pr p) (rows : List IRow) (n : Nat) : (lawM (p : Int) rows n).length ≤ p ^ rows.length := by
  have : ∀ (rows l : List IRow), (rows.foldl (lawStep (p : Int)) l).length ≤ l.length * p ^ rows.length := fun rows => by
    induction rows with
    | nil => intro l; simp
    | cons r rows ih =>
      intro l
      rw [List.foldl_cons, List.length_cons, Nat.pow_succ, Nat.mul_comm (p ^ rows.length), ← Nat.mul_assoc]
      exact Nat.le_trans (ih _) (Nat.mul_le_mul_right _ (lawStep_len hp l r))
  have := this rows [zeroM n]
  rw [List.length_singleton, Nat.one_mul] at this
  exact this
theorem w_lawStep {p n : Nat} (hp : Pr p) {l : List IRow} {r : IRow} (hl : ∀ v ∈ l, W p n v) (hr : W p n r) : ∀ v ∈ lawStep (p : Int) l r, W p n v := by
  unfold lawStep
  split
  · exact hl
  · exact w_ext hp hl hr
theorem w_law {p n : Nat} (hp : Pr p) {rows : List IRow} (hr : ∀ r ∈ rows, W p n r) : ∀ v ∈ lawM (p : Int) rows n, W p n v := by
  have : ∀ (rows l : List IRow), (∀ r ∈ rows, W p n r) → (∀ v ∈ l, W p n v) → ∀ v ∈ rows.foldl (lawStep (p : Int)) l, W p n v := fun rows => by
    induction rows with
    | nil => intro l _ h; exact h
    | cons r rows ih =>
      intro l h1 h2
      rw [List.foldl_cons]
      exact ih _ (fun r' hr' => h1 r' (List.mem_cons_of_mem _ hr')) (w_lawStep hp h2 (h1 r List.mem_cons_self))
  refine this rows _ hr fun v hv => ?_
  rw [List.mem_singleton.mp hv]
  exact w_zero hp
theorem law_flat {p : Nat} {rows : List IRow} (hr : ∀ r ∈ rows, W p 0 r) : lawM (p : Int) rows 0 = [[]] := by
  have : ∀ rows : List IRow, (∀ r ∈ rows, W p 0 r) → rows.foldl (lawStep (p : Int)) [[]] = [[]] := fun rows => by
    induction rows with
    | nil => intro _; rfl
    | cons r rows ih =>
      intro h
      have e : r = [] := List.eq_nil_of_length_eq_zero (h r List.mem_cons_self).len
      rw [List.foldl_cons, e, show lawStep (p : Int) [[]] [] = [[]] from rfl]
      exact ih fun r' hr' => h r' (List.mem_cons_of_mem _ hr')
  exact this rows hr
theorem flatMap_take {α β : Type} {l : List α} {g : α → List β} {i : Nat} {x : α} (h : l[i]? = some x) : (l.take (i + 1)).flatMap g = (l.take i).flatMap g ++ g x := by
  rw [List.take_add_one, h, List.flatMap_append]
  show _ ++ [x].flatMap g = _
  rw [List.flatMap_singleton]
def extR (p : Int) (r w : IRow) : List IRow := (List.range p.toNat).map fun (a : Nat) => addM p w (scaledM p r (a : Int))
def oExt (p : Int) (r w : IRow) : PyData → PyData
  | .int a => dRow (addM p w (scaledM p r a))
  | _ => .none
theorem rng_ext (p : Int) (r w : IRow) : (rng 0 p.toNat).map (oExt p r w) = (extR p r w).map dRow := by
  unfold rng extR
  rw [List.map_map, List.map_map]
  refine List.map_congr_left fun a _ => ?_
  show dRow (addM p w (scaledM p r (0 + (a : Int)))) = dRow (addM p w (scaledM p r (a : Int)))
  rw [Int.zero_add]
section
variable {P : Program} {w : World} {K : PySem.W.Frag} {mg : Str → Option Value} {base : Heap} {f : Addr} {fd : FuncData}
theorem scLSpan : FnScope ["_law_rows_here", "_law_n", "_law_p", "_law_found", "_law_row", "_law_longer", "_law_word", "_law_a"] ["_law_rows_here", "_law_n", "_law_p"] (defScope sLSpan) := ⟨rfl, rfl, rfl, by decide +kernel, rfl, by decide +kernel, by decide +kernel⟩
def RLSpan : List PyData → PyData → Prop := fun ds d => ∃ (p n : Nat) (rows : List IRow), Pr p ∧ n ≤ 1000 ∧ p ^ rows.length ≤ 30000 ∧ (∀ r ∈ rows, W p n r) ∧ (ds = [dRows rows, .int (n : Int), .int (p : Int)] ∨ ds = [dTab rows, .int (n : Int), .int (p : Int)]) ∧ d = dRows (sortM (lawM p rows n))
theorem ok_lspan (F : Fun K "_law_span" "_law_span" sLSpan f fd) (T : Bi mg) (Gz : Fc P w K mg base 1 "_law_zero" ["_law_n"] (spF RLZero)) (Ga : Fc P w K mg base 1 "_law_sum" ["_law_v", "_law_w", "_law_p"] (spF RLSum)) (Gs : Fc P w K mg base 1 "_law_scaled" ["_law_v", "_law_a", "_law_p"] (spF RScaled)) :
    FnOk P w K mg base CX0 2 f fd ["_law_rows_here", "_law_n", "_law_p"] (spF RLSpan) := by
  refine fn_data F scLSpan (fun ds d h => by obtain ⟨p, n, rows, _, _, _, _, h, _⟩ := h; rcases h with rfl | rfl <;> rfl) fun cdv A outer s H E ds d hr h => ?_
  obtain ⟨p, n, rows, hp, hn, hz, hw, hds, rfl⟩ := h
  obtain ⟨d0, rfl, hd0⟩ : ∃ d0, ds = [d0, .int (n : Int), .int (p : Int)] ∧ (d0 = dRows rows ∨ d0 = dTab rows) := by
    rcases hds with rfl | rfl
    · exact ⟨_, rfl, .inl rfl⟩
    · exact ⟨_, rfl, .inr rfl⟩
  have hp100 := hp.hi
  have hun : A.units + 3 + 16 * 1 + 200 < cLine := hr.un
  have hu : A.units + 3 + 64 < cLine := by omega
  have hu5 : A.units + 3 + 65 < cLine := by omega
  refine sr_cons (ss_set 3 scLSpan.nd (PF.pv (pf_lst (pvs_cons (pv_call Gz hr (pvs_cons (pv_var 1) pvs_nil) ⟨n, hn, rfl, rfl⟩) pvs_nil) (hl := Nat.le_of_ble_eq_true rfl))) ?_)
  have body : ∀ (i : Nat) (r : IRow) (e4 e5 e6 : Sl), rows[i]? = some r → SR (cxOf CX0 P w K mg base ["_law_rows_here", "_law_n", "_law_p", "_law_found", "_law_row", "_law_longer", "_law_word", "_law_a"] "_law_span" (defScope sLSpan) f cdv A outer s H E).nox
      [.val d0, .val (.int (n : Int)), .val (.int (p : Int)), .val (dRows ((rows.take i).foldl (lawStep p) [zeroM n])), .val (dRow r), e5, e6, .no] ((fun st => match st with | .For _ _ b _ _ => b | _ => []) ((defBody sLSpan).getD 1 (.Pass ⟨0, 0, 0, 0⟩)))
      { nx := fun es => ∃ e4 e5 e6, es = [.val d0, .val (.int (n : Int)), .val (.int (p : Int)), .val (dRows ((rows.take (i + 1)).foldl (lawStep p) [zeroM n])), e4, e5, e6, .no], rt := fun _ _ => False } := fun i r e4 e5 e6 hri => by
    have hrw : W p n r := hw r (List.mem_of_getElem? hri)
    have hil : i < rows.length := (List.getElem?_eq_some_iff.mp hri).1
    rw [foldl_take _ _ _ hri]
    have hfl : ((rows.take i).foldl (lawStep (p : Int)) [zeroM n]).length ≤ p ^ i := by
      have := law_len hp (rows.take i) n
      rw [List.length_take, Nat.min_eq_left (by omega)] at this
      exact this
    have hfw : ∀ v ∈ (rows.take i).foldl (lawStep (p : Int)) [zeroM n], W p n v := w_law hp fun v hv => hw v (List.mem_of_mem_take hv)
    generalize (rows.take i).foldl (lawStep (p : Int)) [zeroM n] = found at hfl hfw
    have hfp : found.length * p ≤ 30000 := by
      have h1 : found.length * p ≤ p ^ i * p := Nat.mul_le_mul_right _ hfl
      rw [← Nat.pow_succ] at h1
      exact Nat.le_trans h1 (Nat.le_trans (pow_take hp hil) hz)
    refine sr_cons (ss_if (pb_niD hu5 (sh_row r) (sh_rows found) (pv_var 4) (pv_var 3)) (fun hb => ?_) (fun hb => ?_))
    · rw [any_row] at hb
      have est : lawStep (p : Int) found r = extM p found r := by
        unfold lawStep
        rw [if_neg (by simpa using hb)]
      refine sr_cons (ss_set 5 scLSpan.nd (PF.pv (pf_lst pvs_nil)) ?_)
      refine sr_cons (ss_for (items := found.map dRow) (pi_list (pe_w _)) (fsrc_list (pv_var 3)) (pg_oneC (i := 6) scLSpan.nd rfl rfl rfl) (F := F1 6) (is := [6]) (fun d _ => ga1)
        (fun j es => ∃ e6, es = [.val d0, .val (.int (n : Int)), .val (.int (p : Int)), .val (dRows found), .val (dRow r), .val (dRows ((found.take j).flatMap (extR p r))), e6, .no]) ⟨_, rfl⟩ (fun j d es hd hI => ?_) (fun es hI => ?_))
      · obtain ⟨e6, rfl⟩ := hI
        rw [List.getElem?_map] at hd
        cases hvj : found[j]? with
        | none => rw [hvj] at hd; cases hd
        | some v =>
          rw [hvj] at hd
          cases hd
          have hvw : W p n v := hfw v (List.mem_of_getElem? hvj)
          rw [flatMap_take hvj]
          have hll : ((found.take j).flatMap (extR (p : Int) r)).length ≤ found.length * p := by
            have e := ext_len (p := p) (found.take j) r
            have e2 : ((found.take j).flatMap (extR (p : Int) r)).length = (found.take j).length * p := e
            rw [e2]
            exact Nat.mul_le_mul_right _ (by rw [List.length_take]; omega)
          generalize (found.take j).flatMap (extR (p : Int) r) = longer at hll
          refine sr_cons (ss_set 5 scLSpan.nd (PF.pv (pf_is (ds' := (longer ++ extR p r v).map dRow) (pf_cat (PV.pl (pv_var 5)) (PF.pl (pf_lc (own := [("_law_a", 7)]) (items := rng 0 (p : Int).toNat) (out := oExt p r v) (F := F1 7) (is := [7]) scLSpan.nd (pi_range1 (by rfl) T.range (pa_w _)) (FSrc.p (fsrc_rng1 (pv_var 2) (by omega) (by omega)))
            (blkOk_by (N := ["_law_rows_here", "_law_n", "_law_p", "_law_found", "_law_row", "_law_longer", "_law_word", "_law_a"]) (sc := defScope sLSpan) (by decide +kernel)) (fun _ _ _ _ _ => pg_one (i := 7) scLSpan.nd rfl rfl) (fun d hd => ga1) (by decide) (fun s H C cl fp d hd => ?_) ?_)) ?_) ?_)) ?_)
          · obtain ⟨a, ha, rfl⟩ := rng_mem hd
            have hsw := w_scaled hp hrw (0 + (a : Int))
            exact pv_call Ga hr (pvs_cons (pv_var 6) (pvs_cons (pv_call Gs hr (pvs_cons (pv_var 4) (pvs_cons (pv_var 7) (pvs_cons (pv_var 2) pvs_nil))) ⟨p, 0 + (a : Int), r, hp.pos, by rw [hrw.len]; exact hn, w_sm hp hrw, rfl, rfl⟩) (pvs_cons (pv_var 2) pvs_nil)))
              ⟨p, v, scaledM p r (0 + (a : Int)), hp.pos, by rw [hvw.len]; exact hn, by rw [hvw.len, hsw.len], rfl, rfl⟩
          · rw [rng_len]; omega
          · rw [List.length_map, List.length_map, rng_len]; omega
          · rw [rng_ext, List.map_append]
          · exact sr_nil ⟨.val (dRow v), rfl⟩
      · obtain ⟨e6, rfl⟩ := hI
        rw [List.length_map, List.take_length, show found.flatMap (extR (p : Int) r) = extM p found r from rfl]
        refine sr_cons (ss_set 3 scLSpan.nd (PF.pv (pf_listL T.list (PV.pl (pv_var 5)))) (sr_nil (sr_nil ⟨.val (dRow r), .val (dRows (extM p found r)), e6, ?_⟩)))
        rw [est]
        rfl
    · rw [any_row] at hb
      have est : lawStep (p : Int) found r = found := by
        unfold lawStep
        rw [if_pos (by simpa using hb)]
      refine sr_nil (sr_nil ⟨.val (dRow r), e5, e6, ?_⟩)
      rw [est]
  have fin : ∀ es, (∃ e4 e5 e6, es = [.val d0, .val (.int (n : Int)), .val (.int (p : Int)), .val (dRows ((rows.take rows.length).foldl (lawStep p) [zeroM n])), e4, e5, e6, .no]) →
      SR (cxOf CX0 P w K mg base ["_law_rows_here", "_law_n", "_law_p", "_law_found", "_law_row", "_law_longer", "_law_word", "_law_a"] "_law_span" (defScope sLSpan) f cdv A outer s H E).nox es [(defBody sLSpan).getD 2 (.Pass ⟨0, 0, 0, 0⟩)] { nx := fun _ => dRows (sortM (lawM p rows n)) = PyData.none, rt := fun _ d' => d' = dRows (sortM (lawM p rows n)) } := fun es hI => by
    obtain ⟨e4, e5, e6, rfl⟩ := hI
    rw [List.take_length]
    refine sr_cons (ss_ret (PF.pv (pf_sorted T.sorted hu (PV.pl (pv_var 3)) ?_)) rfl)
    by_cases h0 : n = 0
    · subst h0
      have e : lawM (p : Int) rows 0 = [[]] := law_flat hw
      refine .inl ?_
      show (lawM (p : Int) rows 0).length ≤ 1
      rw [e]; exact Nat.le_refl _
    · refine .inr fun v hv e => h0 ?_
      have := (w_law hp hw v hv).len
      rw [e] at this
      exact this.symm
  rcases hd0 with rfl | rfl
  · refine sr_cons (ss_for (items := rows.map dRow) (pi_list (pe_w _)) (fsrc_list (pv_var 0)) (pg_oneC (i := 4) scLSpan.nd rfl rfl rfl) (F := F1 4) (is := [4]) (fun d _ => ga1)
      (fun i es => ∃ e4 e5 e6, es = [.val (dRows rows), .val (.int (n : Int)), .val (.int (p : Int)), .val (dRows ((rows.take i).foldl (lawStep p) [zeroM n])), e4, e5, e6, .no]) ⟨_, _, _, rfl⟩ (fun i d es hd hI => ?_) (fun es hI => fin es (by rw [List.length_map] at hI; exact hI)))
    obtain ⟨e4, e5, e6, rfl⟩ := hI
    rw [List.getElem?_map] at hd
    cases hri : rows[i]? with
    | none => rw [hri] at hd; cases hd
    | some r =>
      rw [hri] at hd
      cases hd
      intro B C O σ H' D S G
      exact body i r e4 e5 e6 hri B C O σ H' D S ⟨G.nx, fun _ _ _ _ _ _ _ _ z => z.elim, fun _ _ _ _ _ z => z.elim, fun _ _ _ _ _ z => z.elim⟩
  · refine sr_cons (ss_for (items := rows.map dRow) (pi_tup (pe_w _)) (fsrc_tup (pv_var 0)) (pg_oneC (i := 4) scLSpan.nd rfl rfl rfl) (F := F1 4) (is := [4]) (fun d _ => ga1)
      (fun i es => ∃ e4 e5 e6, es = [.val (dTab rows), .val (.int (n : Int)), .val (.int (p : Int)), .val (dRows ((rows.take i).foldl (lawStep p) [zeroM n])), e4, e5, e6, .no]) ⟨_, _, _, rfl⟩ (fun i d es hd hI => ?_) (fun es hI => fin es (by rw [List.length_map] at hI; exact hI)))
    obtain ⟨e4, e5, e6, rfl⟩ := hI
    rw [List.getElem?_map] at hd
    cases hri : rows[i]? with
    | none => rw [hri] at hd; cases hd
    | some r =>
      rw [hri] at hd
      cases hd
      intro B C O σ H' D S G
      exact body i r e4 e5 e6 hri B C O σ H' D S ⟨G.nx, fun _ _ _ _ _ _ _ _ z => z.elim, fun _ _ _ _ _ z => z.elim, fun _ _ _ _ _ z => z.elim⟩
end
end PcW
set_option Elab.async false
set_option linter.all false
set_option maxRecDepth 100000
set_option maxHeartbeats 4000000
/-! The law's look at the form of a table. -/
namespace PcW
open PySem PySem.Spec PyProof.Rows L2 PcLin
theorem heads_form {r : IRow} {n k : Nat} (hk : k < n) (h1 : r.getD k 0 ≠ 0) (h0 : ∀ j, j < k → r.getD j 0 = 0) : ∃ rest, (List.range n).filter (fun j => r.getD j 0 != 0) = k :: rest := by
  obtain ⟨m, rfl⟩ : ∃ m, n = k + (m + 1) := ⟨n - k - 1, by omega⟩
  rw [List.range_add, List.filter_append, List.range_succ_eq_map, List.map_cons, List.filter_cons, Nat.add_zero, if_pos (by simpa using h1)]
  rw [List.filter_eq_nil_iff.mpr fun j hj => by
    have := h0 j (List.mem_range.mp hj)
    rw [this]; decide]
  exact ⟨_, rfl⟩
def lastAt (q : List Nat) : Nat → Int
  | 0 => -1
  | i + 1 => ((q.getD i 0 : Nat) : Int)
theorem lastAt_lt {q : List Nat} (h : q.Pairwise (· < ·)) {i : Nat} (hi : i < q.length) : lastAt q i < (q[i] : Int) := by
  cases i with
  | zero => show (-1 : Int) < _; omega
  | succ i =>
    show ((q.getD i 0 : Nat) : Int) < _
    rw [List.getD_eq_getElem?_getD, List.getElem?_eq_getElem (show i < q.length by omega)]
    have := List.pairwise_iff_getElem.mp h i (i + 1) (by omega) hi (by omega)
    show ((q[i] : Nat) : Int) < _
    omega
def nzB (r : IRow) : PyData → Bool
  | .int k => r.getD k.toNat 0 != 0
  | _ => false
section
variable {P : Program} {w : World} {K : PySem.W.Frag} {mg : Str → Option Value} {base : Heap} {f : Addr} {fd : FuncData}
theorem scLForm : FnScope ["_law_told", "_law_n", "_law_last", "_law_i", "_law_heads", "_law_k", "_law_j"] ["_law_told", "_law_n"] (defScope sLForm) := ⟨rfl, rfl, rfl, by decide +kernel, rfl, by decide +kernel, by decide +kernel⟩
def RForm : List PyData → PyData → Prop := fun ds d => ∃ (n : Nat) (told : List IRow) (q : List Nat), InForm told n q ∧ n ≤ 1000 ∧ told.length ≤ 1000 ∧ ds = [dTab told, .int (n : Int)] ∧ d = .bool true
theorem ok_lform (F : Fun K "_law_in_form" "_law_in_form" sLForm f fd) (T : Bi mg) : FnOk P w K mg base CX0 1 f fd ["_law_told", "_law_n"] (spF RForm) := by
  refine fn_data F scLForm (fun ds d h => by obtain ⟨n, t, q, _, _, _, rfl, _⟩ := h; rfl) fun cdv A outer s H E ds d hr h => ?_
  obtain ⟨n, told, q, hf, hn, ht, rfl, rfl⟩ := h
  refine sr_cons (ss_set 2 scLForm.nd (pv_neg pv_int) ?_)
  refine sr_cons (ss_if (pb_not (pb_val (pv_isi (d := dTab told) (b := true) T.isinstance T.tuple boot_tuple (pv_var 0) (show kitB "tuple" "tuple" = some true by decide +kernel)))) (fun hb => by cases hb) (fun _ => sr_nil ?_))
  refine sr_cons (ss_for (items := rng 0 ((told.map dRow).length : Int).toNat) (pi_range1 (by rfl) T.range (pa_w _)) (fsrc_rng1 (pv_lenT T.len (pv_var 0)) (by omega) (by rw [List.length_map]; omega)) (pg_oneC (i := 3) scLForm.nd rfl rfl rfl) (F := F1 3) (is := [3]) (fun d _ => ga1)
    (fun i es => ∃ e3 e4 e5, es = [.val (dTab told), .val (.int (n : Int)), .val (.int (lastAt q i)), e3, e4, e5, .no]) ⟨_, _, _, rfl⟩ (fun i d es hd hI => ?_) (fun es hI => ?_))
  · obtain ⟨e3, e4, e5, rfl⟩ := hI
    obtain ⟨hi, rfl⟩ := rng_at hd
    rw [Int.zero_add]
    rw [Int.toNat_natCast, List.length_map] at hi
    have hiq : i < q.length := by rw [hf.len]; exact hi
    have hti := rows_at hi
    have eg : told.getD i [] = told[i] := by rw [List.getD_eq_getElem?_getD, List.getElem?_eq_getElem hi]; rfl
    have hwid : (told.getD i []).length = n := by rw [eg]; exact hf.wid _ (List.getElem_mem hi)
    have hone : (told.getD i []).getD q[i] 0 = 1 := by rw [eg, hf.one i i hi hiq, if_pos rfl]
    have hlow : ∀ j, j < q[i] → (told.getD i []).getD j 0 = 0 := fun j hj => by rw [eg]; exact hf.low i j hi hiq hj
    have hqn : q[i] < n := hf.lt i hiq
    have hls := lastAt_lt hf.up hiq
    have hnext : lastAt q (i + 1) = (q[i] : Int) := by
      show ((q.getD i 0 : Nat) : Int) = _
      rw [List.getD_eq_getElem?_getD, List.getElem?_eq_getElem hiq]; rfl
    have hoth : ∀ k (hk : k < told.length), k ≠ i → (told.getD k []).getD q[i] 0 = 0 ∧ q[i] < (told.getD k []).length := fun k hk c => by
      have ek : told.getD k [] = told[k] := by rw [List.getD_eq_getElem?_getD, List.getElem?_eq_getElem hk]; rfl
      rw [ek]
      exact ⟨by rw [hf.one k i hk hiq, if_neg c], by rw [hf.wid _ (List.getElem_mem hk)]; exact hqn⟩
    obtain ⟨rest, hheads⟩ := heads_form (r := told.getD i []) hqn (by rw [hone]; decide) hlow
    generalize hqi : q[i] = qi at hone hlow hqn hls hnext hoth hheads
    generalize hrr : told.getD i [] = r at hti hwid hone hlow hheads
    have hqr : qi < r.length := by rw [hwid]; exact hqn
    refine sr_cons (ss_if (pb_w (pbw_or (pb_not (pb_val (pv_isi (d := dRow r) (b := true) T.isinstance T.tuple boot_tuple (pv_ixT (pv_var 0) (pv_var 3) hti) (show kitB "tuple" "tuple" = some true by decide +kernel)))) fun _ => pbw_or1 (pb_neI (pv_lenT T.len (pv_ixT (pv_var 0) (pv_var 3) hti)) (pv_var 1)))) (fun hb => ?_) (fun _ => sr_nil ?_))
    · rw [List.length_map, hwid] at hb
      simp at hb
    refine sr_cons (ss_setLcIf 4 (own := [("_law_j", 6)]) (out := id) (b := nzB r) (F := F1 6) (is := [6]) scLForm.nd (pi_range1 (by rfl) T.range (pa_w _)) (FSrc.p (fsrc_rng1 (pv_var 1) (by omega) (by omega))) (blkOk_by (N := ["_law_told", "_law_n", "_law_last", "_law_i", "_law_heads", "_law_k", "_law_j"]) (sc := defScope sLForm) (by decide +kernel))
      (fun _ _ _ _ _ => pg_one (i := 6) scLForm.nd rfl rfl) (fun d hd => ga1) (by decide) (fun s H C cl fp d hd => ?_) (fun s H C cl fp d hd _ => pv_var 6) ?_ ?_ (sw_true rfl rfl rfl (by decide +kernel)))
    · obtain ⟨k, hk, rfl⟩ := rng_mem hd
      rw [Int.toNat_natCast] at hk
      rw [Int.zero_add]
      exact pb_neI (pv_ixT (pv_ixT (pv_var 0) (pv_var 3) hti) (pv_var 6) (map_at (by rw [hwid]; exact hk))) pv_int
    · rw [rng_len]; omega
    · rw [Int.toNat_natCast, filter_rng n _ (fun k => r.getD k 0 != 0) (fun k => rfl), hheads]
      show SR _ [.val (dTab told), .val (.int (n : Int)), .val (.int (lastAt q i)), .val (.int (i : Int)), .own (dPiv (qi :: rest)), e5, .no] _ _
      refine sr_cons (ss_if (pb_w (pbw_or (pb_eqI (pv_len T.len (pl_own 4)) pv_int) fun _ => pbw_or (pb_leI (pv_ixL (pl_own 4) (j := 0) pv_int rfl) (pv_var 2)) fun _ => pbw_or1 (pb_neI (pv_ixT (pv_ixT (pv_var 0) (pv_var 3) hti) (pv_ixL (pl_own 4) (j := 0) pv_int rfl) (map_at hqr)) pv_int))) (fun hb => ?_) (fun _ => sr_nil ?_))
      · rw [hone] at hb
        simp [dPiv] at hb
        omega
      refine sr_cons (ss_set 2 scLForm.nd (pv_ixL (pl_own 4) (j := 0) pv_int rfl) ?_)
      refine sr_cons (ss_for (items := rng 0 ((told.map dRow).length : Int).toNat) (pi_range1 (by rfl) T.range (pa_w _)) (fsrc_rng1 (pv_lenT T.len (pv_var 0)) (by omega) (by rw [List.length_map]; omega)) (pg_one (i := 5) scLForm.nd rfl rfl) (F := F1 5) (is := [5]) (fun d _ => ga1)
        (fun k es => ∃ e5, es = [.val (dTab told), .val (.int (n : Int)), .val (.int (qi : Int)), .val (.int (i : Int)), .own (dPiv (qi :: rest)), e5, .no]) ⟨_, rfl⟩ (fun k d es hd hI => ?_) (fun es hI => ?_))
      · obtain ⟨e5, rfl⟩ := hI
        obtain ⟨hk, rfl⟩ := rng_at hd
        rw [Int.zero_add]
        rw [Int.toNat_natCast, List.length_map] at hk
        by_cases c : k = i
        · refine sr_cons (ss_if (pb_w (pbw_and (y := false) (pb_neI (pv_var 5) (pv_var 3)) fun z => ?_)) (fun hb => by rw [Bool.and_false] at hb; cases hb) (fun _ => sr_nil (sr_nil ⟨_, rfl⟩)))
          rw [c] at z
          simp at z
        · obtain ⟨h0, hlk⟩ := hoth k hk c
          refine sr_cons (ss_if (pb_w (pbw_and (pb_neI (pv_var 5) (pv_var 3)) fun z => pbw_and1 (pb_neI (pv_ixT (pv_ixT (pv_var 0) (pv_var 5) (rows_at hk)) (pv_var 2) (map_at hlk)) pv_int))) (fun hb => ?_) (fun _ => sr_nil (sr_nil ⟨_, rfl⟩)))
          rw [h0] at hb
          simp at hb
      · obtain ⟨e5, rfl⟩ := hI
        refine sr_nil ⟨.val (.int (i : Int)), .own (dPiv (qi :: rest)), e5, ?_⟩
        rw [hnext]
  · obtain ⟨e3, e4, e5, rfl⟩ := hI
    exact sr_cons (ss_ret pv_bl rfl)
theorem scLShows : FnScope ["_law_told", "_law_words", "_law_n", "_law_p"] ["_law_told", "_law_words", "_law_n", "_law_p"] (defScope sLShows) := ⟨rfl, rfl, rfl, by decide +kernel, rfl, by decide +kernel, by decide +kernel⟩
def RShows : List PyData → PyData → Prop := fun ds d => ∃ (p n : Nat) (told : List IRow) (q : List Nat), InForm told n q ∧ Pr p ∧ n ≤ 1000 ∧ told.length ≤ 1000 ∧ p ^ told.length ≤ 30000 ∧ (∀ r ∈ told, W p n r) ∧ ds = [dTab told, dRows (sortM (lawM p told n)), .int (n : Int), .int (p : Int)] ∧ d = .bool true
theorem ok_lshows (F : Fun K "_law_shows" "_law_shows" sLShows f fd) (T : Bi mg) (Gf : Fc P w K mg base 1 "_law_in_form" ["_law_told", "_law_n"] (spF RForm)) (Gs : Fc P w K mg base 2 "_law_span" ["_law_rows_here", "_law_n", "_law_p"] (spF RLSpan)) : FnOk P w K mg base CX0 3 f fd ["_law_told", "_law_words", "_law_n", "_law_p"] (spF RShows) := by
  refine fn_data F scLShows (fun ds d h => by obtain ⟨p, n, t, q, _, _, _, _, _, _, rfl, _⟩ := h; rfl) fun cdv A outer s H E ds d hr h => ?_
  obtain ⟨p, n, told, q, hf, hp, hn, ht, hz, hw, rfl, rfl⟩ := h
  have hun : A.units + 3 + 16 * 2 + 200 < cLine := hr.un
  have hu : A.units + 3 + 64 < cLine := by omega
  refine sr_cons (ss_ret (pv_and (x := true) (pv_call Gf (hr.mono (by decide)) (pvs_cons (pv_var 0) (pvs_cons (pv_var 2) pvs_nil)) ⟨n, told, q, hf, hn, ht, rfl, rfl⟩) fun _ => pv_one (pv_eqD hu (sh_rows _) (sh_rows _) (pv_call Gs hr (pvs_cons (pv_var 0) (pvs_cons (pv_var 2) (pvs_cons (pv_var 3) pvs_nil))) ⟨p, n, told, hp, hn, hz, hw, .inr rfl, rfl⟩) (pv_var 1))) ?_)
  rw [eqv_rows, beq_self_eq_true]
  rfl
end
end PcW
set_option Elab.async false
set_option linter.all false
set_option maxRecDepth 100000
set_option maxHeartbeats 4000000
/-! The law's dot, total, kinds. -/
namespace PcW
open PySem PySem.Spec PyProof.Rows L2 PcLin
def tstep (p : Int) (t : IRow) (ra : IRow × Int) : IRow := addM p t (scaledM p ra.1 ra.2)
theorem mod_mod_add {a b c : Int} : (a + b) % c = (a + b % c) % c := by rw [Int.add_emod a (b % c), Int.emod_emod_of_dvd b (Int.dvd_refl c), ← Int.add_emod]
theorem tstep_eq {p n : Nat} (hp : Pr p) {t : IRow} {ra : IRow × Int} (ht : W p n t) (hr : W p n ra.1) : cstep (p : Int) t ra = tstep p t ra := by
  obtain ⟨r, a⟩ := ra
  have l1 := ht.len
  have l2 : r.length = n := hr.len
  show (if a ≠ 0 then List.zipWith (fun x y => (x + a * y) % (p : Int)) t r else t) = List.zipWith (fun x y => (x + y) % (p : Int)) t (r.map fun x => x * a % (p : Int))
  by_cases c : a = 0
  · subst c
    rw [if_neg (by decide)]
    refine List.ext_getElem (by rw [List.length_zipWith, List.length_map]; omega) fun i h1 h2 => ?_
    rw [List.getElem_zipWith, List.getElem_map, Int.mul_zero, Int.zero_emod, Int.add_zero]
    have := ht.rng _ (List.getElem_mem h1)
    exact (Int.emod_eq_of_lt this.1 this.2).symm
  · rw [if_pos c]
    refine List.ext_getElem (by rw [List.length_zipWith, List.length_zipWith, List.length_map]) fun i h1 h2 => ?_
    rw [List.getElem_zipWith, List.getElem_zipWith, List.getElem_map, Int.mul_comm a, mod_mod_add]
theorem total_eq {p n : Nat} (hp : Pr p) : ∀ (l : List (IRow × Int)) (t : IRow), W p n t → (∀ ra ∈ l, W p n ra.1) → l.foldl (tstep (p : Int)) t = l.foldl (cstep (p : Int)) t
  | [], _, _, _ => rfl
  | ra :: l, t, ht, h => by
    rw [List.foldl_cons, List.foldl_cons, tstep_eq hp ht (h ra List.mem_cons_self)]
    exact total_eq hp l _ (w_add hp ht (w_scaled hp (h ra List.mem_cons_self) _)) fun r hr => h r (List.mem_cons_of_mem _ hr)
theorem w_tfold {p n : Nat} (hp : Pr p) : ∀ (l : List (IRow × Int)) (t : IRow), W p n t → (∀ ra ∈ l, W p n ra.1) → W p n (l.foldl (tstep (p : Int)) t)
  | [], _, ht, _ => ht
  | ra :: l, t, ht, h => w_tfold hp l _ (w_add hp ht (w_scaled hp (h ra List.mem_cons_self) _)) fun r hr => h r (List.mem_cons_of_mem _ hr)
section
variable {P : Program} {w : World} {K : PySem.W.Frag} {mg : Str → Option Value} {base : Heap} {f : Addr} {fd : FuncData}
theorem scLDot : FnScope ["_law_p", "_law_v", "_law_w", "_law_k"] ["_law_p", "_law_v", "_law_w"] (defScope sLDot) := ⟨rfl, rfl, rfl, by decide +kernel, rfl, by decide +kernel, by decide +kernel⟩
def RLDot : List PyData → PyData → Prop := fun ds d => ∃ (p : Int) (v u : IRow), 0 < p ∧ v.length ≤ 1000 ∧ v.length = u.length ∧ Sm v ∧ ds = [.int p, dRow v, dRow u] ∧ d = .int (dotM p v u)
theorem ok_ldot (F : Fun K "_law_dot" "_law_dot" sLDot f fd) (T : Bi mg) : FnOk P w K mg base CX0 1 f fd ["_law_p", "_law_v", "_law_w"] (spF RLDot) := by
  refine fn_data F scLDot (fun ds d h => by obtain ⟨p, v, u, _, _, _, _, rfl, _⟩ := h; rfl) fun cdv A outer s H E ds d hr h => ?_
  obtain ⟨p, v, u, hp, hv, hl, sm, rfl, rfl⟩ := h
  refine sr_cons (ss_ret (pv_mod hp (pv_intI T.int (pv_sum (ns := List.zipWith (fun x y => x * y) v u) T.sum (PF.pl (pf_is (pf_lc (own := [("_law_k", 3)]) (out := oIx fun k => v.getD k 0 * u.getD k 0) (F := F1 3) (is := [3]) scLDot.nd
    (pi_range1 (by rfl) T.range (pa_w _)) (FSrc.p (fsrc_rng1 (pv_lenT T.len (pv_var 1)) (by omega) (by rw [List.length_map]; omega))) (blkOk_by (N := ["_law_p", "_law_v", "_law_w", "_law_k"]) (sc := defScope sLDot) (by decide +kernel))
    (fun _ _ _ _ _ => pg_one (i := 3) scLDot.nd rfl rfl) (fun d hd => ga1) (by decide) (fun s H C cl fp d hd => ?_) ?_) (by rw [Int.toNat_natCast, List.length_map, rng_ix, zip_ix (fun x y => x * y) hl]))))) (pv_var 0)) rfl)
  · obtain ⟨k, hk, rfl⟩ := rng_mem hd
    rw [Int.toNat_natCast, List.length_map] at hk
    rw [Int.zero_add]
    show PV _ _ _ (.int (v.getD (k : Int).toNat 0 * u.getD (k : Int).toNat 0))
    rw [Int.toNat_natCast]
    exact pv_mul (cmul_l (by rw [getD_at hk]; exact sm _ (List.getElem_mem hk))) (pv_ixT (pv_var 1) (pv_var 3) (map_at hk)) (pv_ixT (pv_var 2) (pv_var 3) (map_at (by omega)))
  · rw [rng_len, List.length_map]; omega
theorem scLTotal : FnScope ["_law_p", "_law_rows_here", "_law_weights", "_law_n", "_law_total_here", "_law_k"] ["_law_p", "_law_rows_here", "_law_weights", "_law_n"] (defScope sLTotal) := ⟨rfl, rfl, rfl, by decide +kernel, rfl, by decide +kernel, by decide +kernel⟩
def RLTotal : List PyData → PyData → Prop := fun ds d => ∃ (p n : Nat) (rows : List IRow) (ws : List Int), Pr p ∧ n ≤ 1000 ∧ rows.length ≤ 1000 ∧ ws.length = rows.length ∧ (∀ r ∈ rows, W p n r) ∧ ds = [.int (p : Int), dRows rows, dInts ws, .int (n : Int)] ∧ d = dRow (combineM p rows ws n)
theorem zip_at {rows : List IRow} {ws : List Int} {k : Nat} (h1 : k < rows.length) (h2 : k < ws.length) : (rows.zip ws)[k]? = some (rows.getD k [], ws.getD k 0) := by
  rw [List.getElem?_eq_getElem (by rw [List.length_zip]; omega), List.getElem_zip, getD_at h2, List.getD_eq_getElem?_getD, List.getElem?_eq_getElem h1]; rfl
theorem ok_ltotal (F : Fun K "_law_total" "_law_total" sLTotal f fd) (T : Bi mg) (Gz : Fc P w K mg base 1 "_law_zero" ["_law_n"] (spF RLZero)) (Ga : Fc P w K mg base 1 "_law_sum" ["_law_v", "_law_w", "_law_p"] (spF RLSum)) (Gs : Fc P w K mg base 1 "_law_scaled" ["_law_v", "_law_a", "_law_p"] (spF RScaled)) :
    FnOk P w K mg base CX0 2 f fd ["_law_p", "_law_rows_here", "_law_weights", "_law_n"] (spF RLTotal) := by
  refine fn_data F scLTotal (fun ds d h => by obtain ⟨p, n, rows, ws, _, _, _, _, _, rfl, _⟩ := h; rfl) fun cdv A outer s H E ds d hr h => ?_
  obtain ⟨p, n, rows, ws, hp, hn, hm, hl, hw, rfl, rfl⟩ := h
  have hzw : ∀ ra ∈ rows.zip ws, W p n ra.1 := fun ra hra => hw _ (List.of_mem_zip hra).1
  refine sr_cons (ss_set 4 scLTotal.nd (pv_call Gz hr (pvs_cons (pv_var 3) pvs_nil) ⟨n, hn, rfl, rfl⟩) ?_)
  refine sr_cons (ss_for (items := rng 0 ((rows.map dRow).length : Int).toNat) (pi_range1 (by rfl) T.range (pa_w _)) (fsrc_rng1 (pv_len T.len (PV.pl (pv_var 1))) (by omega) (by rw [List.length_map]; omega)) (pg_one (i := 5) scLTotal.nd rfl rfl) (F := F1 5) (is := [5]) (fun d _ => ga1)
    (fun i es => ∃ e5, es = [.val (.int (p : Int)), .val (dRows rows), .val (dInts ws), .val (.int (n : Int)), .val (dRow (((rows.zip ws).take i).foldl (tstep p) (zeroM n))), e5]) ⟨_, rfl⟩ (fun i d es hd hI => ?_) (fun es hI => ?_))
  · obtain ⟨e5, rfl⟩ := hI
    obtain ⟨hi, rfl⟩ := rng_at hd
    rw [Int.zero_add]
    rw [Int.toNat_natCast, List.length_map] at hi
    have hiw : i < ws.length := by omega
    rw [foldl_take _ _ _ (zip_at hi hiw)]
    have htw : W p n (((rows.zip ws).take i).foldl (tstep (p : Int)) (zeroM n)) := w_tfold hp _ _ (w_zero hp) fun ra hra => hzw ra (List.mem_of_mem_take hra)
    have hrw : W p n (rows.getD i []) := hw _ (get_mem hi)
    generalize ((rows.zip ws).take i).foldl (tstep (p : Int)) (zeroM n) = t at htw
    have hsw := w_scaled hp hrw (ws.getD i 0)
    exact sr_cons (ss_set 4 scLTotal.nd (pv_call Ga hr (pvs_cons (pv_var 4) (pvs_cons (pv_call Gs hr (pvs_cons (pv_ixL (PV.pl (pv_var 1)) (pv_var 5) (rows_at hi)) (pvs_cons (pv_ixL (PV.pl (pv_var 2)) (pv_var 5) (map_at hiw)) (pvs_cons (pv_var 0) pvs_nil))) ⟨p, ws.getD i 0, rows.getD i [], hp.pos, by rw [hrw.len]; exact hn, w_sm hp hrw, rfl, rfl⟩) (pvs_cons (pv_var 0) pvs_nil)))
      ⟨p, t, scaledM p (rows.getD i []) (ws.getD i 0), hp.pos, by rw [htw.len]; exact hn, by rw [htw.len, hsw.len], rfl, rfl⟩) (sr_nil ⟨.val (.int (i : Int)), rfl⟩))
  · obtain ⟨e5, rfl⟩ := hI
    rw [rng_len, Int.toNat_natCast, List.length_map, List.take_of_length_le (by rw [List.length_zip]; omega), total_eq hp _ _ (w_zero hp) hzw]
    exact sr_cons (ss_ret (pv_var 4) rfl)

/-! ### kinds -/
theorem row_in {p n : Nat} {v : IRow} (h : W p n v) : isRowM p n (dRow v) = true := by
  show (decide (((v.map PyData.int).length : Int) = n) && (v.map PyData.int).all (inRng p)) = true
  rw [List.length_map, h.len, decide_eq_true rfl, Bool.true_and, List.all_map, List.all_eq_true]
  intro x hx
  have := h.rng x hx
  show (decide (0 ≤ x) && decide (x < (p : Int))) = true
  rw [decide_eq_true this.1, decide_eq_true this.2]; rfl
theorem row_len {p n : Int} {ds : List PyData} (h : (ds.length : Int) ≠ n) : isRowM p n (.tuple ds) = false := by
  show (decide ((ds.length : Int) = n) && ds.all (inRng p)) = false
  rw [decide_eq_false h]; rfl
theorem row_end {p n : Int} {ds : List PyData} {d : PyData} (h : inRng p d = false) : isRowM p n (.tuple (ds ++ [d])) = false := by
  show (decide (((ds ++ [d]).length : Int) = n) && (ds ++ [d]).all (inRng p)) = false
  rw [List.all_append, show [d].all (inRng p) = false from by rw [List.all_cons, h]; rfl, Bool.and_false, Bool.and_false]
/-- what no row is -/
structure NoRow (p n : Nat) (d : PyData) : Prop where
  no : isRowM p n d = false
  nd : ∀ k, d ≠ .dict k
  ni : ∀ l, d = .tuple l → ∀ k, .dict k ∉ l
theorem nr_tup {p n : Nat} {l : List PyData} (h : isRowM p n (.tuple l) = false) (hl : ∀ d ∈ l, ∀ k, d ≠ .dict k) : NoRow p n (.tuple l) := ⟨h, (fun k z => by cases z), fun l' e k hk => by cases e; exact hl _ hk k rfl⟩
theorem ints_nd {l : List Int} {d : PyData} (h : d ∈ l.map PyData.int) : ∀ k, d ≠ .dict k := fun k e => by
  obtain ⟨x, _, rfl⟩ := List.mem_map.mp h
  cases e
theorem snoc_nd {l : List PyData} {x : PyData} (hl : ∀ d ∈ l, ∀ k, d ≠ .dict k) (hx : ∀ k, x ≠ .dict k) : ∀ d ∈ l ++ [x], ∀ k, d ≠ .dict k := fun d hd => (List.mem_append.mp hd).elim (hl d) fun z => by rw [List.mem_singleton.mp z]; exact hx
theorem scLKinds : FnScope ["_law_v", "_law_n", "_law_p", "_law_wrong", "_law_value"] ["_law_v", "_law_n", "_law_p"] (defScope sLKinds) := ⟨rfl, rfl, rfl, by decide +kernel, rfl, by decide +kernel, by decide +kernel⟩
def RKinds : List PyData → PyData → Prop := fun ds d => ∃ (p n : Nat) (v : IRow), Pr p ∧ n ≤ 1000 ∧ W p n v ∧ ds = [dRow v, .int (n : Int), .int (p : Int)] ∧ d = .bool true
theorem ok_lkinds (F : Fun K "_law_kinds" "_law_kinds" sLKinds f fd) (T : Bi mg) (G : Fc P w K mg base 2 "is_row" ["value", "p", "n"] (spF RIsRow)) : FnOk P w K mg base CX0 3 f fd ["_law_v", "_law_n", "_law_p"] (spF RKinds) := by
  refine fn_data F scLKinds (fun ds d h => by obtain ⟨p, n, v, _, _, _, rfl, _⟩ := h; rfl) fun cdv A outer s H E ds d hr h => ?_
  obtain ⟨p, n, v, hp, hn, hv, rfl, rfl⟩ := h
  have hvl := hv.len
  have hvm : (v.map PyData.int).length = n := by rw [List.length_map]; exact hvl
  have hvd : ∀ d ∈ v.map PyData.int, ∀ k, d ≠ .dict k := fun d hd => ints_nd hd
  have fin : ∀ wr : List PyData, (∀ d ∈ wr, NoRow p n d) → wr.length ≤ 1000 → SR (cxOf CX0 P w K mg base ["_law_v", "_law_n", "_law_p", "_law_wrong", "_law_value"] "_law_kinds" (defScope sLKinds) f cdv A outer s H E).nox
      [.val (dRow v), .val (.int (n : Int)), .val (.int (p : Int)), .val (.list wr), .no] [(defBody sLKinds).getD 2 (.Pass ⟨0, 0, 0, 0⟩)] { nx := fun _ => PyData.bool true = .none, rt := fun _ d' => d' = .bool true } := fun wr hno hwl => by
    have e0 : wr.filter (fun d => !decide (isRowM p n d = false)) = [] := List.filter_eq_nil_iff.mpr fun d hd => by rw [(hno d hd).no]; decide
    refine sr_cons (ss_ret (pv_and (x := true) (y := true) (pv_is (pv_isBl (pv_call G hr (pvs_cons (pv_var 0) (pvs_cons (pv_var 2) (pvs_cons (pv_var 1) pvs_nil))) ⟨(p : Int), (n : Int), dRow v, (fun k e => by cases e), fun l e k hk => by cases e; exact hvd _ hk k rfl, rfl, rfl⟩) pv_bl) (by rw [row_in hv]; rfl)) fun _ => pv_one
      (pv_is (pv_eqI (pv_len T.len (PF.pl (pf_is (pf_lcIf (own := [("_law_value", 4)]) (out := id) (b := fun d => !decide (isRowM p n d = false)) (F := F1 4) (is := [4]) scLKinds.nd (pi_list (pe_w _)) (FSrc.p (fsrc_list (pv_var 3))) (blkOk_by (N := ["_law_v", "_law_n", "_law_p", "_law_wrong", "_law_value"]) (sc := defScope sLKinds) (by decide +kernel))
        (fun _ _ _ _ _ => pg_one (i := 4) scLKinds.nd rfl rfl) (fun d hd => ga1) (by decide) (fun s H C cl fp d hd => pb_isnBl (pv_call G hr (pvs_cons (pv_var 4) (pvs_cons (pv_var 2) (pvs_cons (pv_var 1) pvs_nil))) ⟨(p : Int), (n : Int), d, (hno d hd).nd, (hno d hd).ni, rfl, rfl⟩) pv_bl) (fun s H C cl fp d hd _ => pv_var 4) (by omega)) (show _ = ([] : List PyData) by rw [e0]; rfl)))) pv_int) rfl)) rfl)
  refine sr_cons (ss_set 3 scLKinds.nd (PF.pv (pf_lst (pvs_cons (PF.pv (pf_listT T.list (pv_var 0))) (pvs_cons (pv_catT (pv_var 0) (pv_tup (pvs_cons pv_int pvs_nil) (hl := Nat.le_of_ble_eq_true rfl)) (by show (v.map PyData.int).length + 1 ≤ 100000; omega)) (pvs_cons pv_non (pvs_cons pv_int (pvs_cons pv_str (pvs_cons (pv_tup (pvs_cons pv_non pvs_nil) (hl := Nat.le_of_ble_eq_true rfl)) (pvs_cons pv_bl pvs_nil))))))) (hl := Nat.le_of_ble_eq_true rfl))) ?_)
  have no1 : ∀ d ∈ [PyData.list (v.map .int), .tuple (v.map .int ++ [.int 0]), .none, .int 1, .str "0", .tuple [.none], .bool true], NoRow p n d := by
    intro d hd
    simp only [List.mem_cons, List.not_mem_nil, or_false] at hd
    rcases hd with rfl | rfl | rfl | rfl | rfl | rfl | rfl
    · exact ⟨rfl, (fun k e => by cases e), fun l e => by cases e⟩
    · exact nr_tup (row_len (by rw [List.length_append, hvm]; show ((n + 1 : Nat) : Int) ≠ n; omega)) (snoc_nd hvd fun k e => by cases e)
    · exact ⟨rfl, (fun k e => by cases e), fun l e => by cases e⟩
    · exact ⟨rfl, (fun k e => by cases e), fun l e => by cases e⟩
    · exact ⟨rfl, (fun k e => by cases e), fun l e => by cases e⟩
    · exact nr_tup (row_end (ds := []) rfl) (snoc_nd (l := []) (fun d hd => by cases hd) fun k e => by cases e)
    · exact ⟨rfl, (fun k e => by cases e), fun l e => by cases e⟩
  refine sr_cons (ss_if (pb_gtI (pv_var 1) pv_int) (fun hb => ?_) (fun _ => sr_nil (fin _ no1 (Nat.le_of_ble_eq_true rfl))))
  have hn0 : (0 : Int) < n := of_decide_eq_true hb
  have hne : v.map PyData.int ≠ [] := fun e => by rw [e] at hvm; simp at hvm; omega
  have hpre : ∀ d ∈ (v.map PyData.int).take ((v.map PyData.int).length - 1), ∀ k, d ≠ .dict k := fun d hd => hvd d (List.mem_of_mem_take hd)
  have hpl : ((v.map PyData.int).take ((v.map PyData.int).length - 1)).length = n - 1 := by rw [List.length_take, hvm]; omega
  generalize hpp : (v.map PyData.int).take ((v.map PyData.int).length - 1) = pre at hpre hpl
  have sl : ∀ {P' : List PyData → Prop}, P' pre → P' ((v.map PyData.int).take ((v.map PyData.int).length - 1)) := fun h => by rw [hpp]; exact h
  have hz1 : pre.length + 1 ≤ 100000 := by omega
  refine sr_cons (ss_set 3 scLKinds.nd (PF.pv (pf_cat (PV.pl (pv_var 3)) (PF.pl (pf_lst (ds := [.tuple (pre ++ [.int (p : Int)]), .tuple (pre ++ [.int (-1)]), .tuple (pre ++ [.bool true]), .tuple (pre ++ [.none]), .tuple (pre ++ [.tuple []]), .tuple pre])
    (pvs_cons (pv_catT (pv_is (pv_slInit (pv_var 0) hne) (by rw [hpp])) (pv_tup (pvs_cons (pv_var 2) pvs_nil) (hl := Nat.le_of_ble_eq_true rfl)) hz1) (pvs_cons (pv_catT (pv_is (pv_slInit (pv_var 0) hne) (by rw [hpp])) (pv_tup (pvs_cons (pv_neg pv_int) pvs_nil) (hl := Nat.le_of_ble_eq_true rfl)) hz1)
      (pvs_cons (pv_catT (pv_is (pv_slInit (pv_var 0) hne) (by rw [hpp])) (pv_tup (pvs_cons pv_bl pvs_nil) (hl := Nat.le_of_ble_eq_true rfl)) hz1) (pvs_cons (pv_catT (pv_is (pv_slInit (pv_var 0) hne) (by rw [hpp])) (pv_tup (pvs_cons pv_non pvs_nil) (hl := Nat.le_of_ble_eq_true rfl)) hz1)
      (pvs_cons (pv_catT (pv_is (pv_slInit (pv_var 0) hne) (by rw [hpp])) (pv_tup (pvs_cons (pv_tup pvs_nil) pvs_nil) (hl := Nat.le_of_ble_eq_true rfl)) hz1) (pvs_cons (pv_is (pv_slInit (pv_var 0) hne) (by rw [hpp])) pvs_nil)))))) (hl := Nat.le_of_ble_eq_true rfl))) (Nat.le_of_ble_eq_true rfl))) (sr_nil (fin _ (fun d hd => ?_) (Nat.le_of_ble_eq_true rfl))))
  rcases List.mem_append.mp hd with hd | hd
  · exact no1 d hd
  · simp only [List.mem_cons, List.not_mem_nil, or_false] at hd
    rcases hd with rfl | rfl | rfl | rfl | rfl | rfl
    · refine nr_tup (row_end ?_) (snoc_nd hpre fun k e => by cases e)
      show (decide (0 ≤ (p : Int)) && decide ((p : Int) < p)) = false
      rw [decide_eq_false (Int.lt_irrefl _), Bool.and_false]
    · exact nr_tup (row_end rfl) (snoc_nd hpre fun k e => by cases e)
    · exact nr_tup (row_end rfl) (snoc_nd hpre fun k e => by cases e)
    · exact nr_tup (row_end rfl) (snoc_nd hpre fun k e => by cases e)
    · exact nr_tup (row_end rfl) (snoc_nd hpre fun k e => by cases e)
    · exact nr_tup (row_len (by rw [hpl]; omega)) hpre
end
end PcW
set_option Elab.async false
set_option linter.all false
set_option maxRecDepth 100000
set_option maxHeartbeats 4000000
/-! For the law's body: two names at once, a list of draws, the checks, the facts about the defs. -/
namespace PcW
open PySem PySem.Spec PyProof.Rows L2 PcLin
section
variable {X : Cx} {es : List Sl} {st : Addr} {a b : Expr} {j : Nat} {R R2 : PyData → Prop} {P : DE} {pos : Pos}
theorem ss_parS (i1 i2 : Nat) {x y : Str} {px py pt : Pos} {kt k2 : Nat} {pt2 : Pos} (hs : es[j]? = some (.two st)) (hN : X.N.Nodup) (h1 : SVt X es st a R) (h2 : SVt X es st b R2) (q : ∀ d1 d2, R d1 → R2 d2 → P.nx ((es.set i1 (.val d1)).set i2 (.val d2)))
    (hw : swappedStores [.Tuple [.Name x px, .Name y py] kt pt] (.Tuple [a, b] k2 pt2) X.env = pure (some [x, y])) (hi : X.N[i1]? = some x := by rfl) (hj : X.N[i2]? = some y := by rfl) (hij : i1 ≠ i2 := by decide)
    (hx : X.env.scope.names.lookup x = some .local := by rfl) (hy : X.env.scope.names.lookup y = some .local := by rfl) (hc : X.calm = true := by rfl) (hsw : swapsWithSole [.Tuple [.Name x px, .Name y py] kt pt] (.Tuple [a, b] k2 pt2) pos.line X.env = pure false := by rfl)
    (he : starEach [a, b] X.env = (false, eval a X.env) :: starEach [b] X.env := by rfl) (he2 : starEach [b] X.env = (false, eval b X.env) :: starEach [] X.env := by rfl) : SS X es (.Assign [.Tuple [.Name x px, .Name y py] kt pt] (.Tuple [a, b] k2 pt2) pos) P := fun B C O σ H D S G =>
  wS_of (ps_par hc hN hi hj hij hx hy (pa_cons (pe_w a) (pa_cons (pe_w b) pa_nil he2) he) hw hsw) (h1 B C O σ H S _ fun v H1 d1 t1 r1 rv1 => h2 B C O σ H1 (S.turn hs t1) _ fun u H2 d2 t2 r2 rv2 => by
    refine ⟨v, u, rfl, G.nx O H2 _ _ ((((S.turn hs t1).turn hs t2).setVal (rv1.mono ((S.turn hs t1).turnEx hs t2))).setVal rv2) (q d1 d2 r1 r2)⟩)
theorem ss_setLcS (i : Nat) {x : Str} {py : Pos} {elt tg iter : Expr} {scope : Scope} {own : List (Str × Nat)} {lpos : Pos} {wi : TI} {g : TG} {is : List Nat} {F : PyData → List Sl → List Sl} {N : List PyData → Prop} {Re : PyData → Prop} (hN : X.N.Nodup) (hs : es[j]? = some (.two st)) (hno : NoMine es j) (hi : PI X tg iter wi) (src : FSrcT X es st wi N) (ok : BlkOk X.N X.env.scope scope own)
    (hg : ∀ (s : Shared) (H : Hp) (C : Addr) (cl : List (Str × Addr)) (fp : List Addr), PG (X.blk s H scope (compEnvC scope cl C X.env) fp) tg g)
    (ga : ∀ items, N items → ∀ d ∈ items, GA g d (F d) is) (his : ∀ i ∈ is, i ∈ own.map (·.2))
    (he : ∀ (s : Shared) (H : Hp) (C : Addr) (cl : List (Str × Addr)) (fp : List Addr), ∀ items, N items → ∀ d ∈ items, SVt (X.blk s H scope (compEnvC scope cl C X.env) fp) (F d (wipeE es (own.map (·.2)))) st elt Re) (hz : ∀ items, N items → items.length ≤ 100000)
    (q : ∀ ds items, N items → ds.length = items.length → (∀ d ∈ ds, Re d) → P.nx (es.set i (.val (.list ds))))
    (hsw : swapsWith (.ListComp elt [⟨tg, iter, [], 0⟩] scope lpos) (some (.Name x py)) pos.line X.env = pure true) (hx : X.N[i]? = some x := by rfl) (hxl : X.env.scope.names.lookup x = some .local := by rfl) (hc : X.calm = true := by rfl) (hf : ∀ x, foldedSetIterable iter X.env x = pure x := by intro _; rfl) :
    SS X es (.Assign [.Name x py] (.ListComp elt [⟨tg, iter, [], 0⟩] scope lpos) pos) P := fun B C O σ H D S G =>
  wS_of (ps_setLc hc hN hx hxl hsw hi ok hg (fun _ _ _ _ _ => pts_nil) (te := wEb X scope elt) (fun s H C cl fp => ⟨fun pins s' σ H Q I h => h s _ C cl fp pins s' I⟩) hf)
    (lc_turn hs hno src ga his (fun items hN d hd => ev_s fun s H0 C0 cl fp => he s H0 C0 cl fp items hN d hd) hz S fun p xs H' ds items h0 t h1 r hN hl hRe =>
      G.nx O H' _ _ ((S.turn hs t).setVal (.lst (hid_some.mpr ⟨fun z => (by obtain ⟨o, w⟩ := S.dom p z; rw [h0] at w; cases w), h1⟩) (r.mono hid_more))) (q ds items hN hl hRe))
end
theorem checks5 {p n : Nat} (h : Five p) {first second : List IRow} (h1 : ∀ r ∈ first, W p n r) (h2 : ∀ r ∈ second, W p n r) :
    Checks p n first second (tabM p first n) (tabM p second n) (tabM p (tabM p first n ++ tabM p second n) n) (commonM p (tabM p first n) (tabM p second n) n) := by
  rcases h with rfl | rfl | rfl | rfl | rfl
  · exact checks (p := 2) (by decide +kernel) (by decide) h1 h2
  · exact checks (p := 3) (by decide +kernel) (by decide) h1 h2
  · exact checks (p := 5) (by decide +kernel) (by decide) h1 h2
  · exact checks (p := 7) (by decide +kernel) (by decide) h1 h2
  · exact checks (p := 31) (by decide +kernel) (by decide) h1 h2
theorem filter_rows (l : List IRow) (b : IRow → Bool) : ((l.map dRow).filter fun d => b (rowOf d)).map id = (l.filter b).map dRow := by
  rw [List.map_id, List.filter_map]
  congr 2
  funext r
  show b (rowOf (dRow r)) = b r
  rw [rowOf_d]
theorem intsList {P : Int → Prop} {ds : List PyData} (h : ∀ d ∈ ds, ∃ x, d = .int x) : ∃ ws : List Int, ds = ws.map .int := by
  induction ds with
  | nil => exact ⟨[], rfl⟩
  | cons d ds ih =>
    obtain ⟨ws, rfl⟩ := ih fun d hd => h d (List.mem_cons_of_mem _ hd)
    obtain ⟨x, rfl⟩ := h d List.mem_cons_self
    exact ⟨x :: ws, rfl⟩
/-- the defs that the law calls -/
structure Defs (P : Program) (w : World) (K : PySem.W.Frag) (mg : Str → Option Value) (base : Heap) : Prop where
  bi : Bi mg
  state : Fc P w K mg base 1 "_law_state" ["_law_script"] (spState K)
  take : Fc P w K mg base 1 "_law_take" ["_law_state_here", "_law_m"] (spS OkTake RTake)
  element : Fc P w K mg base 2 "_law_element" ["_law_state_here", "_law_p", "_law_n"] (spS OkEl REl)
  prime : Fc P w K mg base 2 "_law_prime" ["_law_state_here"] (spS (· = []) RPrime)
  width : Fc P w K mg base 2 "_law_width" ["_law_state_here", "_law_p"] (spS (fun ds => ∃ p, Five p ∧ ds = [.int (p : Int)]) RWidth)
  rows : Fc P w K mg base 3 "_law_rows" ["_law_state_here", "_law_p", "_law_n", "_law_most"] (spS OkRows RRows)
  lsum : Fc P w K mg base 1 "_law_sum" ["_law_v", "_law_w", "_law_p"] (spF RLSum)
  lscaled : Fc P w K mg base 1 "_law_scaled" ["_law_v", "_law_a", "_law_p"] (spF RScaled)
  lspan : Fc P w K mg base 2 "_law_span" ["_law_rows_here", "_law_n", "_law_p"] (spF RLSpan)
  lshows : Fc P w K mg base 3 "_law_shows" ["_law_told", "_law_words", "_law_n", "_law_p"] (spF RShows)
  ldot : Fc P w K mg base 1 "_law_dot" ["_law_p", "_law_v", "_law_w"] (spF RLDot)
  ltotal : Fc P w K mg base 2 "_law_total" ["_law_p", "_law_rows_here", "_law_weights", "_law_n"] (spF RLTotal)
  lkinds : Fc P w K mg base 3 "_law_kinds" ["_law_v", "_law_n", "_law_p"] (spF RKinds)
  add : Fc P w K mg base 1 "add" ["v", "w", "p"] (spF RAdd)
  scaled : Fc P w K mg base 1 "scaled" ["v", "a", "p"] (spF RScaled)
  dot : Fc P w K mg base 1 "dot" ["v", "w", "p"] (spF RDot)
  combine : Fc P w K mg base 1 "combine" ["rows", "weights", "width", "p"] (spF RCombine)
  span : Fc P w K mg base 3 "span" ["rows", "width", "p"] (spF RSpan)
  sumof : Fc P w K mg base 4 "sum_of" ["a", "b", "width", "p"] (spF RSumOf)
  common : Fc P w K mg base 5 "common_part" ["a", "b", "width", "p"] (spF RCommon)
  all : Gc P w K mg base 2 "all_rows" ["space", "width", "p"] RAll
abbrev lN : List Str := ["_law_script", "_law_state_here", "_law_p", "_law_n", "_law_first", "_law_second", "_law_one", "_law_two", "_law_a", "_law_b", "_law_wide", "_law_part", "_law_v", "_law_w", "_law_c", "_law_weights", "_law_row"]
theorem scLaw : FnScope lN ["_law_script"] (defScope sLaw) := ⟨rfl, rfl, rfl, by decide +kernel, rfl, by decide +kernel, by decide +kernel⟩
abbrev lX (P : Program) (w : World) (K : PySem.W.Frag) (mg : Str → Option Value) (base : Heap) (f : Addr) (cdv : Value) (A : Around) (outer : List Env) (s : Shared) (H : Hp) (E : XK) : Cx := (cxOf CX0 P w K mg base lN "law" (defScope sLaw) f cdv A outer s H E).nox
abbrev lEnd : DE := { nx := fun _ => False, rt := fun _ d => d = .bool true }
abbrev lRest (k : Nat) : List Stmt := (defBody sLaw).drop k
end PcW
set_option Elab.async false
set_option linter.all false
set_option maxRecDepth 100000
set_option maxHeartbeats 4000000
/-! The law's body from the drawn rows v, w on. -/
namespace PcW
open PySem PySem.Spec PyProof.Rows L2 PcLin
section
variable {P : Program} {w : World} {K : PySem.W.Frag} {mg : Str → Option Value} {base : Heap} {f : Addr} {cdv : Value} {A : Around} {outer : List Env} {s : Shared} {H : Hp} {E : XK}
theorem int_of_take {m : Int} {d : PyData} (h : RTake [.int m] d) : ∃ x, d = .int x := by
  obtain ⟨_, x, _, _, _, rfl⟩ := h
  exact ⟨x, rfl⟩
theorem law_end (Q : Defs P w K mg base) {st : Addr} {p n : Nat} {first second : List IRow} {d6 d7 d8 d9 d10 d11 : PyData} (hr : Room 5 (lX P w K mg base f cdv A outer s H E).A) (hp : Pr p) (hn : n ≤ 4) (hf : ∀ r ∈ first, W p n r) (hfl : first.length ≤ 10) :
    SR (lX P w K mg base f cdv A outer s H E) [.no, .two st, .val (.int (p : Int)), .val (.int (n : Int)), .val (dRows first), .val (dRows second), .val d6, .val d7, .val d8, .val d9, .val d10, .val d11, .no, .no, .no, .no, .no] (lRest 15) lEnd := by
  have T := Q.bi
  have hun : A.units + 3 + 16 * 5 + 200 < cLine := hr.un
  have hu : A.units + 3 + 64 < cLine := by omega
  have hp100 := hp.hi
  have hp1 := hp.lo
  have okE : OkEl [.int (p : Int), .int (n : Int)] := ⟨p, n, by omega, by omega, by omega, rfl⟩
  refine sr_cons (ss_parS (j := 1) 12 13 rfl scLaw.nd (svt_call 1 Q.element (hr.mono (by decide)) rfl (pvs_cons (pv_var 2) (pvs_cons (pv_var 3) pvs_nil)) okE) (svt_call 1 Q.element (hr.mono (by decide)) rfl (pvs_cons (pv_var 2) (pvs_cons (pv_var 3) pvs_nil)) okE) (fun d1 d2 h1 h2 => ?_) rfl)
  have rowOf' : ∀ {d : PyData}, REl [.int (p : Int), .int (n : Int)] d → ∃ r, W p n r ∧ d = dRow r := fun {d} h => by
    obtain ⟨p', n', r, e, hw, rfl⟩ := h
    obtain ⟨e1, e2⟩ : (p : Int) = p' ∧ (n : Int) = n' := by
      simp only [List.cons.injEq, PyData.int.injEq, and_true] at e
      exact e
    obtain rfl : p = p' := by omega
    obtain rfl : n = n' := by omega
    exact ⟨r, hw, rfl⟩
  obtain ⟨v, hv, rfl⟩ := rowOf' h1
  obtain ⟨u, hu', rfl⟩ := rowOf' h2
  have hv1 : v.length ≤ 1000 := by rw [hv.len]; omega
  have hvu : v.length = u.length := by rw [hv.len, hu'.len]
  refine sr_cons (ss_setS (j := 1) 14 rfl scLaw.nd (svt_subI (j := 1) rfl (svt_call 1 Q.take (hr.mono (by decide)) rfl (pvs_cons pv_int pvs_nil) ⟨21, by decide, by decide, rfl⟩) (fun d h => int_of_take h) pv_int) (fun d hd => ?_))
  obtain ⟨c0, _, rfl⟩ := hd
  generalize c0 - 10 = c
  refine sr_cons (ss_if (pb_w (pbw_or (pb_neD hu (sh_row _) (sh_row _) (pv_call Q.add (hr.mono (by decide)) (pvs_cons (pv_var 12) (pvs_cons (pv_var 13) (pvs_cons (pv_var 2) pvs_nil))) ⟨p, v, u, hp.pos, hv1, rfl, rfl⟩) (pv_call Q.lsum (hr.mono (by decide)) (pvs_cons (pv_var 12) (pvs_cons (pv_var 13) (pvs_cons (pv_var 2) pvs_nil))) ⟨p, v, u, hp.pos, hv1, hvu, rfl, rfl⟩)) fun _ =>
    pbw_or (pb_neD hu (sh_row _) (sh_row _) (pv_call Q.scaled (hr.mono (by decide)) (pvs_cons (pv_var 12) (pvs_cons (pv_var 14) (pvs_cons (pv_var 2) pvs_nil))) ⟨p, c, v, hp.pos, hv1, w_sm hp hv, rfl, rfl⟩) (pv_call Q.lscaled (hr.mono (by decide)) (pvs_cons (pv_var 12) (pvs_cons (pv_var 14) (pvs_cons (pv_var 2) pvs_nil))) ⟨p, c, v, hp.pos, hv1, w_sm hp hv, rfl, rfl⟩)) fun _ =>
    pbw_or1 (pb_neI (pv_call Q.dot (hr.mono (by decide)) (pvs_cons (pv_var 12) (pvs_cons (pv_var 13) (pvs_cons (pv_var 2) pvs_nil))) ⟨p, v, u, hp.pos, hv1, w_sm hp hv, rfl, rfl⟩) (pv_call Q.ldot (hr.mono (by decide)) (pvs_cons (pv_var 2) (pvs_cons (pv_var 12) (pvs_cons (pv_var 13) pvs_nil))) ⟨p, v, u, hp.pos, hv1, hvu, w_sm hp hv, rfl, rfl⟩)))) (fun hb => ?_) (fun _ => sr_nil ?_))
  · rw [eqv_row, eqv_row, beq_self_eq_true, beq_self_eq_true] at hb
    simp at hb
  refine sr_cons (ss_setLcS (j := 1) (st := st) 15 (own := [("_law_row", 16)]) (F := F1 16) (is := [16]) (N := (· = first.map dRow)) (Re := fun d => ∃ x, d = .int x) scLaw.nd rfl rfl (pi_list (pe_w _)) (FSrc.t (j := 1) rfl (fsrc_list (pv_var 4))) (blkOk_by (N := lN) (sc := defScope sLaw) (by decide +kernel)) (fun _ _ _ _ _ => pg_one (i := 16) scLaw.nd rfl rfl) (fun _ _ d hd => ga1) (by decide)
    (fun s H C cl fp items hi d hd => SVt.mono (svt_subI (j := 1) rfl (svt_call 1 Q.take (hr.mono (by decide)) rfl (pvs_cons pv_int pvs_nil) ⟨9, by decide, by decide, rfl⟩) (fun d h => int_of_take h) pv_int) fun d hd => ?_) (fun items hi => ?_) (fun ds items hi hl hR => ?_) (sw_true rfl rfl rfl (by decide +kernel)))
  · obtain ⟨x, _, rfl⟩ := hd
    exact ⟨_, rfl⟩
  · rw [hi, List.length_map]; omega
  obtain ⟨ws, rfl⟩ := intsList (P := fun _ => True) hR
  have hwl : ws.length = first.length := by
    rw [hi, List.length_map, List.length_map] at hl
    exact hl
  have hfs : ∀ r ∈ first, Sm r := fun r hr => w_sm hp (hf r hr)
  have cb : ∀ (ds : List PyData), (ds = [dRows first, dInts ws, .int (n : Int), .int (p : Int)] ∨ ds = [dTab first, dRow ws, .int (n : Int), .int (p : Int)]) → RCombine ds (dRow (combineM p first ws n)) := fun ds h => ⟨p, n, first, ws, hp.pos, by omega, hfs, h, rfl⟩
  refine sr_cons (ss_if (pb_w (pbw_or (pb_neD hu (sh_row _) (sh_row _) (pv_call Q.combine (hr.mono (by decide)) (pvs_cons (pv_var 4) (pvs_cons (pv_var 15) (pvs_cons (pv_var 3) (pvs_cons (pv_var 2) pvs_nil)))) (cb _ (.inl rfl))) (pv_call Q.ltotal (hr.mono (by decide)) (pvs_cons (pv_var 2) (pvs_cons (pv_var 4) (pvs_cons (pv_var 15) (pvs_cons (pv_var 3) pvs_nil)))) ⟨p, n, first, ws, hp, by omega, by omega, hwl, hf, rfl, rfl⟩)) fun _ =>
    pbw_or1 (pb_neD hu (sh_row _) (sh_row _) (pv_call Q.combine (hr.mono (by decide)) (pvs_cons (pv_tupL T.tuple (PV.pl (pv_var 4))) (pvs_cons (pv_tupL T.tuple (PV.pl (pv_var 15))) (pvs_cons (pv_var 3) (pvs_cons (pv_var 2) pvs_nil)))) (cb _ (.inr rfl))) (pv_call Q.combine (hr.mono (by decide)) (pvs_cons (pv_var 4) (pvs_cons (pv_var 15) (pvs_cons (pv_var 3) (pvs_cons (pv_var 2) pvs_nil)))) (cb _ (.inl rfl)))))) (fun hb => ?_) (fun _ => sr_nil ?_))
  · rw [eqv_row, beq_self_eq_true] at hb
    simp at hb
  exact sr_cons (ss_ret (pv_call Q.lkinds (hr.mono (by decide)) (pvs_cons (pv_var 12) (pvs_cons (pv_var 3) (pvs_cons (pv_var 2) pvs_nil))) ⟨p, n, v, hp, by omega, hv, rfl, rfl⟩) rfl)
end
end PcW
set_option Elab.async false
set_option linter.all false
set_option maxRecDepth 100000
set_option maxHeartbeats 4000000
/-! The law's body from the two spans on. -/
namespace PcW
open PySem PySem.Spec PyProof.Rows L2 PcLin
section
variable {P : Program} {w : World} {K : PySem.W.Frag} {mg : Str → Option Value} {base : Heap} {f : Addr} {cdv : Value} {A : Around} {outer : List Env} {s : Shared} {H : Hp} {E : XK}
theorem law_mid (Q : Defs P w K mg base) {st : Addr} {p n : Nat} {first second : List IRow} (hr : Room 5 (lX P w K mg base f cdv A outer s H E).A) (h5 : Five p) (hn : n ≤ 4) (hpn : p ^ n ≤ 343) (hf : ∀ r ∈ first, W p n r) (hs : ∀ r ∈ second, W p n r) (hfl : first.length ≤ 10) (hsl : second.length ≤ 10) (hz : p ^ (first ++ second).length ≤ 30000) :
    SR (lX P w K mg base f cdv A outer s H E) [.no, .two st, .val (.int (p : Int)), .val (.int (n : Int)), .val (dRows first), .val (dRows second), .no, .no, .no, .no, .no, .no, .no, .no, .no, .no, .no] (lRest 6) lEnd := by
  have T := Q.bi
  have hp : Pr p := pr_of h5
  have hun : A.units + 3 + 16 * 5 + 200 < cLine := hr.un
  have hu : A.units + 3 + 64 < cLine := by omega
  have hu5 : A.units + 3 + 65 < cLine := by omega
  have hp100 := hp.hi
  have hz1 : p ^ first.length ≤ 30000 := Nat.le_trans (pow_take hp (by rw [List.length_append]; omega)) hz
  have hz2 : p ^ second.length ≤ 30000 := Nat.le_trans (pow_take hp (by rw [List.length_append]; omega)) hz
  have hws : ∀ r ∈ first ++ second, W p n r := fun r hr => (List.mem_append.mp hr).elim (hf r) (hs r)
  have ck := checks5 h5 hf hs
  have la := tab_len (n := n) hp hf
  have lb := tab_len (n := n) hp hs
  have wa := w_tab hp hf
  have wb := w_tab hp hs
  have lab : ∀ r ∈ tabM p first n ++ tabM p second n, W p n r := fun r hr => (List.mem_append.mp hr).elim (wa r) (wb r)
  have lW := tab_len (n := n) hp lab
  have wW := w_tab hp lab
  have lP : (commonM p (tabM p first n) (tabM p second n) n).length ≤ n := kernel_len hp _
  have wP : ∀ r ∈ commonM p (tabM p first n) (tabM p second n) n, W p n r := w_kernel hp _
  refine sr_cons (ss_set 6 scLaw.nd (pv_call Q.lspan (hr.mono (by decide)) (pvs_cons (pv_var 4) (pvs_cons (pv_var 3) (pvs_cons (pv_var 2) pvs_nil))) ⟨p, n, first, hp, by omega, hz1, hf, .inl rfl, rfl⟩) ?_)
  refine sr_cons (ss_set 7 scLaw.nd (pv_call Q.lspan (hr.mono (by decide)) (pvs_cons (pv_var 5) (pvs_cons (pv_var 3) (pvs_cons (pv_var 2) pvs_nil))) ⟨p, n, second, hp, by omega, hz2, hs, .inl rfl, rfl⟩) ?_)
  refine sr_cons (ss_set 8 scLaw.nd (pv_call Q.span (hr.mono (by decide)) (pvs_cons (pv_var 4) (pvs_cons (pv_var 3) (pvs_cons (pv_var 2) pvs_nil))) ⟨p, n, first, hp, by omega, by omega, hf, .inl rfl, rfl⟩) ?_)
  refine sr_cons (ss_set 9 scLaw.nd (pv_call Q.span (hr.mono (by decide)) (pvs_cons (pv_var 5) (pvs_cons (pv_var 3) (pvs_cons (pv_var 2) pvs_nil))) ⟨p, n, second, hp, by omega, by omega, hs, .inl rfl, rfl⟩) ?_)
  generalize hA : tabM (p : Int) first n = ta at ck la wa lab lW wW lP wP
  generalize hB : tabM (p : Int) second n = tb at ck lb wb lab lW wW lP wP
  refine sr_cons (ss_set 10 scLaw.nd (pv_call Q.sumof (hr.mono (by decide)) (pvs_cons (pv_var 8) (pvs_cons (pv_var 9) (pvs_cons (pv_var 3) (pvs_cons (pv_var 2) pvs_nil)))) ⟨p, n, ta, tb, hp, by omega, by omega, by omega, wa, wb, rfl, rfl⟩) ?_)
  refine sr_cons (ss_set 11 scLaw.nd (pv_call Q.common hr (pvs_cons (pv_var 8) (pvs_cons (pv_var 9) (pvs_cons (pv_var 3) (pvs_cons (pv_var 2) pvs_nil)))) ⟨p, n, ta, tb, hp, by omega, by omega, by omega, wa, wb, rfl, rfl⟩) ?_)
  generalize hW : tabM (p : Int) (ta ++ tb) n = tw at ck lW wW
  generalize hP : commonM (p : Int) ta tb n = tp at ck lP wP
  obtain ⟨q1, f1⟩ := ck.wide_form
  obtain ⟨q2, f2⟩ := ck.part_form
  have zw : p ^ tw.length ≤ 30000 := Nat.le_trans (pow_take hp lW) (by omega)
  have zp : p ^ tp.length ≤ 30000 := Nat.le_trans (pow_take hp lP) (by omega)
  have one_len : (sortM (lawM (p : Int) first n)).length ≤ 30000 := by rw [(sort_perm _).length_eq]; exact Nat.le_trans (law_len hp first n) hz1
  have hcat : (first.map dRow).length + (second.map dRow).length ≤ 100000 := by rw [List.length_map, List.length_map]; omega
  refine sr_cons (ss_if (pb_w (pbw_or (pb_not (pb_val (pv_call (d := .bool true) Q.lshows (hr.mono (by decide)) (pvs_cons (pv_var 10) (pvs_cons (d := dRows (sortM (lawM p tw n))) (pv_is (pv_call Q.lspan (hr.mono (by decide)) (pvs_cons (d := dRows (first ++ second)) (pv_is (PF.pv (pf_cat (PV.pl (pv_var 4)) (PV.pl (pv_var 5)) hcat)) (by rw [← List.map_append])) (pvs_cons (pv_var 3) (pvs_cons (pv_var 2) pvs_nil))) ⟨p, n, first ++ second, hp, by omega, hz, hws, .inl rfl, rfl⟩) (by rw [ck.wide_span])) (pvs_cons (pv_var 3) (pvs_cons (pv_var 2) pvs_nil))))
      ⟨p, n, tw, q1, f1, hp, by omega, by omega, zw, wW, rfl, rfl⟩))) fun _ =>
    pbw_or1 (pb_not (pb_val (pv_call (d := .bool true) Q.lshows (hr.mono (by decide)) (pvs_cons (pv_var 11) (pvs_cons (d := dRows (sortM (lawM p tp n))) (PF.pv (pf_is (pf_lcIf (own := [("_law_v", 12)]) (out := id) (b := fun d => (sortM (lawM p second n)).contains (rowOf d)) (F := F1 12) (is := [12]) scLaw.nd (pi_list (pe_w _)) (FSrc.p (fsrc_list (pv_var 6))) (blkOk_by (N := lN) (sc := defScope sLaw) (by decide +kernel))
      (fun _ _ _ _ _ => pg_one (i := 12) scLaw.nd rfl rfl) (fun d hd => ga1) (by decide) (fun s H C cl fp d hd => ?_) (fun s H C cl fp d hd _ => pv_var 12) ?_) ?_)) (pvs_cons (pv_var 3) (pvs_cons (pv_var 2) pvs_nil)))) ⟨p, n, tp, q2, f2, hp, by omega, by omega, zp, wP, rfl, rfl⟩))))) (fun hb => by cases hb) (fun _ => sr_nil ?_))
  · obtain ⟨r, hr', rfl⟩ := List.mem_map.mp hd
    refine pb_is (pb_inD hu5 (sh_row r) (sh_rows _) (pv_var 12) (pv_var 7)) ?_
    rw [any_row, rowOf_d]
  · rw [List.length_map]; omega
  · rw [filter_rows, ck.part_span]
  have ewide : tabM (p : Int) (tb ++ ta) n = tw := ck.wide_back
  have epart : commonM (p : Int) tb ta n = tp := ck.part_back
  refine sr_cons (ss_if (pb_w (pbw_or (pb_neI (pv_add (pv_lenT T.len (pv_var 10)) (pv_lenT T.len (pv_var 11))) (pv_add (pv_lenT T.len (pv_var 8)) (pv_lenT T.len (pv_var 9)))) fun _ =>
    pbw_or (pb_neD hu (sh_tab _) (sh_tab _) (pv_call Q.sumof (hr.mono (by decide)) (pvs_cons (pv_var 9) (pvs_cons (pv_var 8) (pvs_cons (pv_var 3) (pvs_cons (pv_var 2) pvs_nil)))) ⟨p, n, tb, ta, hp, by omega, by omega, by omega, wb, wa, rfl, rfl⟩) (pv_var 10)) fun _ =>
    pbw_or1 (pb_neD hu (sh_tab _) (sh_tab _) (pv_call Q.common hr (pvs_cons (pv_var 9) (pvs_cons (pv_var 8) (pvs_cons (pv_var 3) (pvs_cons (pv_var 2) pvs_nil)))) ⟨p, n, tb, ta, hp, by omega, by omega, by omega, wb, wa, rfl, rfl⟩) (pv_var 11)))) (fun hb => ?_) (fun _ => sr_nil ?_))
  · rw [ewide, epart, eqv_tab, eqv_tab, beq_self_eq_true, beq_self_eq_true] at hb
    have := ck.dims
    simp only [List.length_map] at hb
    simp at hb
    omega
  have za : p ^ ta.length ≤ 1000 := Nat.le_trans (pow_take hp la) (by omega)
  have zb : p ^ tb.length ≤ 1000 := Nat.le_trans (pow_take hp lb) (by omega)
  have len_all : ∀ t : List IRow, p ^ t.length ≤ 1000 → ((sortM (allM (p : Int) t n)).map dRow).length ≤ 100000 := fun t h => by rw [List.length_map, (sort_perm _).length_eq, all_len]; omega
  refine sr_cons (ss_if (pb_w (pbw_or (pb_neD hu (sh_rows (sortM (allM (p : Int) ta n))) (sh_rows _) (PF.pv (pf_lcG (k := 2) (y := "_law_v") Q.all (hr.mono (by decide)) (pvs_cons (pv_var 8) (pvs_cons (pv_var 3) (pvs_cons (pv_var 2) pvs_nil))) ⟨p, n, ta, hp, by omega, za, la, wa, rfl, rfl⟩ (len_all ta za) rfl (by decide +kernel) rfl (by decide))) (pv_var 6)) fun _ =>
    pbw_or1 (pb_neD hu (sh_rows (sortM (allM (p : Int) tb n))) (sh_rows _) (PF.pv (pf_listG (k := 2) T.list Q.all hr (pvs_cons (pv_var 9) (pvs_cons (pv_var 3) (pvs_cons (pv_var 2) pvs_nil))) ⟨p, n, tb, hp, by omega, zb, lb, wb, rfl, rfl⟩ (len_all tb zb))) (pv_var 7)))) (fun hb => ?_) (fun _ => sr_nil ?_))
  · rw [eqv_rows, eqv_rows, ck.all_a, ck.all_b, beq_self_eq_true, beq_self_eq_true] at hb
    simp at hb
  exact law_end Q hr hp hn hf hfl
end
end PcW
set_option Elab.async false
set_option linter.all false
set_option maxRecDepth 100000
set_option maxHeartbeats 4000000
/-! The law. -/
namespace PcW
open PySem PySem.Spec PyProof.Rows L2 PcLin
def mostOf (p : Nat) : Nat := if 7 < p then 1 else 2
theorem pow_five {p L : Nat} (h : Five p) (hL : L ≤ 2 * mostOf p + 1) : p ^ L ≤ 30000 := by
  have key : ∀ (b m : Nat), 0 < b → mostOf b = m → b ^ (2 * m + 1) ≤ 30000 → L ≤ 2 * mostOf b + 1 → b ^ L ≤ 30000 := fun b m hb hm h1 h2 => Nat.le_trans (Nat.pow_le_pow_right hb (by rw [hm] at h2; exact h2)) h1
  rcases h with rfl | rfl | rfl | rfl | rfl
  · exact key 2 2 (by decide) rfl (by decide) hL
  · exact key 3 2 (by decide) rfl (by decide) hL
  · exact key 5 2 (by decide) rfl (by decide) hL
  · exact key 7 2 (by decide) rfl (by decide) hL
  · exact key 31 1 (by decide) rfl (by decide) hL
theorem most_int {p : Nat} : (PyData.int (2 - (if decide ((7 : Int) < (p : Int)) then 1 else 0))) = .int (mostOf p : Int) := by
  unfold mostOf
  by_cases c : 7 < p
  · rw [if_pos c, decide_eq_true (by omega)]; rfl
  · rw [if_neg c, decide_eq_false (by omega)]; rfl
theorem most_le {p : Nat} : mostOf p ≤ 2 := by unfold mostOf; split <;> omega
section
variable {P : Program} {w : World} {K : PySem.W.Frag} {mg : Str → Option Value} {base : Heap} {f : Addr} {fd : FuncData} {cdv : Value} {A : Around} {outer : List Env} {s : Shared} {H : Hp} {E : XK}
theorem law_start (Q : Defs P w K mg base) {st : Addr} (hr : Room 5 (lX P w K mg base f cdv A outer s H E).A) :
    SR (lX P w K mg base f cdv A outer s H E) [.no, .two st, .no, .no, .no, .no, .no, .no, .no, .no, .no, .no, .no, .no, .no, .no, .no] (lRest 1) lEnd := by
  have T := Q.bi
  refine sr_cons (ss_setS (j := 1) 2 rfl scLaw.nd (svt_call 1 Q.prime (hr.mono (by decide)) rfl pvs_nil rfl) (fun d hd => ?_))
  obtain ⟨p, h5, rfl⟩ := hd
  have hp : Pr p := pr_of h5
  have hp1 := hp.lo
  have hp100 := hp.hi
  refine sr_cons (ss_setS (j := 1) 3 rfl scLaw.nd (svt_call 1 Q.width (hr.mono (by decide)) rfl (pvs_cons (pv_var 2) pvs_nil) ⟨p, h5, rfl⟩) (fun d hd => ?_))
  obtain ⟨p', n, e, hpn, hn, rfl⟩ := hd
  obtain rfl : p = p' := by
    simp only [List.cons.injEq, PyData.int.injEq, and_true] at e
    omega
  have hm2 := most_le (p := p)
  have okR : OkRows [.int (p : Int), .int (n : Int), .int (mostOf p : Int)] := ⟨p, n, mostOf p, by omega, by omega, by omega, by omega, rfl⟩
  have got : ∀ {d : PyData}, RRows [.int (p : Int), .int (n : Int), .int (mostOf p : Int)] d → ∃ rs : List IRow, rs.length ≤ mostOf p ∧ (∀ r ∈ rs, W p n r) ∧ d = dRows rs := fun {d} h => by
    obtain ⟨p', n', m', rs, e, hl, hw, rfl⟩ := h
    obtain ⟨e1, e2, e3⟩ : (p : Int) = p' ∧ (n : Int) = n' ∧ (mostOf p : Int) = m' := by
      simp only [List.cons.injEq, PyData.int.injEq, and_true] at e
      exact e
    obtain rfl : p = p' := by omega
    obtain rfl : n = n' := by omega
    exact ⟨rs, by omega, hw, rfl⟩
  refine sr_cons (ss_setS (j := 1) 4 rfl scLaw.nd (svt_call 1 Q.rows (hr.mono (by decide)) rfl (pvs_cons (pv_var 2) (pvs_cons (pv_var 3) (pvs_cons (pv_is (pv_sub pv_int (pv_intB T.int (pv_gtI (pv_var 2) pv_int))) most_int) pvs_nil))) okR) (fun d hd => ?_))
  obtain ⟨first, hfl, hf, rfl⟩ := got hd
  refine sr_cons (ss_setS (j := 1) 5 rfl scLaw.nd (svt_call 1 Q.rows (hr.mono (by decide)) rfl (pvs_cons (pv_var 2) (pvs_cons (pv_var 3) (pvs_cons (pv_is (pv_sub pv_int (pv_intB T.int (pv_gtI (pv_var 2) pv_int))) most_int) pvs_nil))) okR) (fun d hd => ?_))
  obtain ⟨second, hsl, hs, rfl⟩ := got hd
  have ht1 : (first.take 1).length ≤ 1 := by rw [List.length_take]; omega
  refine sr_cons (ss_ifS (j := 1) rfl (sbt_eqI (j := 1) rfl (svt_call 1 Q.take (hr.mono (by decide)) rfl (pvs_cons pv_int pvs_nil) ⟨3, by decide, by decide, rfl⟩) (fun d h => int_of_take h) pv_int) ?_ ?_)
  · refine sr_cons (ss_set 5 scLaw.nd (PF.pv (pf_is (ds' := (second ++ first.take 1).map dRow) (pf_cat (PV.pl (pv_var 5)) (PF.pl (pf_slHead (k := 1) (PV.pl (pv_var 4)))) ?_) ?_)) (sr_nil ?_))
    · rw [List.length_map, List.length_take, List.length_map]; omega
    · rw [List.map_append, List.map_take]
    · refine law_mid Q hr h5 hn hpn hf (fun r hr => (List.mem_append.mp hr).elim (hs r) fun h => hf r (List.mem_of_mem_take h)) (by omega) (by rw [List.length_append]; omega) (pow_five h5 ?_)
      rw [List.length_append, List.length_append]; omega
  · refine sr_nil (law_mid Q hr h5 hn hpn hf hs (by omega) (by omega) (pow_five h5 ?_))
    rw [List.length_append]; omega
def spLaw (K : PySem.W.Frag) : Sp := fun vs H Q _ => ∃ (a : Addr) (ns : List Int), vs = [.ref a] ∧ SqL K H a (ns.map V.int) ∧ ns.length ≤ 63 ∧ ∀ H', Q (.bl true) H'
theorem ok_law (F : Fun K "law" "law" sLaw f fd) (D : Defs P w K mg base) : FnOk P w K mg base CX0 6 f fd ["_law_script"] (spLaw K) := by
  refine F.ok scLaw (fun vs H Q E h => ?_) fun cdv A outer s H vs Q E hr h => ?_
  · obtain ⟨a, ns, rfl, _⟩ := h; rfl
  · obtain ⟨a, ns, rfl, hS, hl, q⟩ := h
    obtain ⟨fs, fds, G, hm, hk, hb⟩ := D.state.ex
    refine ⟨_, pss_cons (ps_set (i := 1) scLaw.nd rfl (.inr rfl) (pe_call G (hr.mono (by decide)) (by rfl) hm hk hb .nil pass0 (pa_cons (pv 0) pa_nil))) (pss_w (lRest 1)), ?_⟩
    refine ⟨.ref a, rfl, a, ns, rfl, hS, fun p x y H' h0 e1 h1 => ?_⟩
    have S : Sit H (fun _ => False) (fun a => a = p) H' [some (.ref a), some (.ref p), none, none, none, none, none, none, none, none, none, none, none, none, none, none, none] [.no, .two p, .no, .no, .no, .no, .no, .no, .no, .no, .no, .no, .no, .no, .no, .no, .no] := by
      have only : ∀ (i : Nat) (e : Sl), ([.no, .two p, .no, .no, .no, .no, .no, .no, .no, .no, .no, .no, .no, .no, .no, .no, .no] : List Sl)[i]? = some e → (i = 1 ∧ e = .two p) ∨ e = .no := fun i e h => by
        match i, h with
        | 0, h => cases h; exact .inr rfl
        | 1, h => cases h; exact .inl ⟨rfl, rfl⟩
        | i + 2, h =>
          have h : (List.replicate 15 Sl.no)[i]? = some e := h
          rw [List.getElem?_replicate] at h
          split at h
          · cases h; exact .inr rfl
          · cases h
      refine ⟨e1, fun _ z => z.elim, fun _ z => z.elim, fun b z => ⟨.lst [.int x, .int y], by rw [show b = p from z]; exact h1⟩, fun b z => .inr (by rw [show b = p from z]; exact h0), rfl, fun i e h => ?_, fun i j e g b hi hj m1 m2 _ _ => ?_⟩
      · rcases only i e h with ⟨rfl, rfl⟩ | rfl
        · exact ⟨⟨rfl, rfl, h0⟩, x, y, h1⟩
        · trivial
      · rcases only i e hi with ⟨rfl, rfl⟩ | rfl
        · rcases only j g hj with ⟨rfl, rfl⟩ | rfl
          · rfl
          · cases m2
        · cases m1
    exact law_start D hr H _ _ _ H' _ S ⟨fun _ _ _ _ _ z => z.elim, fun O2 H2 σ2 es2 v d S2 r e => by
      rw [e] at r
      cases rp_bl r
      exact q H2, fun _ _ _ _ _ z => z.elim, fun _ _ _ _ _ z => z.elim⟩
end
end PcW
set_option Elab.async false
set_option linter.all false
set_option maxRecDepth 100000
set_option maxHeartbeats 4000000
/-! What the top has written; the law's own def. -/
namespace PcW
open PySem PySem.Spec PyProof.Rows L2 PcLin
/-- a def of the text as the top leaves it -/
def Dd (K : PySem.W.Frag) (x : Str) (st : Stmt) : Prop := ∃ (f : Addr) (od an : Option Addr) (sl : Array (Option Value)) (oc kV dc pm cd ct : Value), PySem.W.nsIn K mainGlobals x = some (some (.ref f)) ∧
  K.lookup f = some ⟨oc, od, .func (PySem.W.fnOf x x (defArgs st) (defBody st) (defScope st) .none kV dc pm an cd ct), sl⟩ ∧ PySem.W.codeIn K cd x = true ∧ PySem.W.keepIn K (.ref f) = true
theorem dd_mk {K : PySem.W.Frag} {x : Str} {st : Stmt} {f : Addr} {od an : Option Addr} {sl : Array (Option Value)} {oc kV dc pm cd ct : Value} (a : PySem.W.nsIn K mainGlobals x = some (some (.ref f)))
    (l : K.lookup f = some ⟨oc, od, .func (PySem.W.fnOf x x (defArgs st) (defBody st) (defScope st) .none kV dc pm an cd ct), sl⟩) (c : PySem.W.codeIn K cd x = true) (k : PySem.W.keepIn K (.ref f) = true) : Dd K x st := ⟨f, od, an, sl, oc, kV, dc, pm, cd, ct, a, l, c, k⟩
section
variable {P : Program} {w : World} {K : PySem.W.Frag} {mg : Str → Option Value} {base h : Heap}
theorem fc_of {x : Str} {st : Stmt} {ps : List Str} {k : Nat} {sp : Sp} (X : K.In h) (G : h.Ns mainGlobals mg) (D : Dd K x st) (hb : ∀ (kV doc pm : Value) (an : Option Addr) (cdv ct : Value) (us : List Value), us.length = ps.length → bindArgs (PySem.W.fnOf x x (defArgs st) (defBody st) (defScope st) .none kV doc pm an cdv ct) ⟨us, []⟩ = pure (ps.zip us))
    (ok : ∀ f fd, Fun K x x st f fd → FnOk P w K mg base CX0 k f fd ps sp) : Fc P w K mg base k x ps sp := by
  obtain ⟨f, od, an, sl, oc, kV, dc, pm, cd, ct, a, l, c, kk⟩ := D
  have F := fun_mk (st := st) l c kk
  exact ⟨f, _, ok f _ F, PySem.W.mg_of X G a, F.kp, F.binds hb⟩
theorem gc_of {x : Str} {st : Stmt} {ps : List Str} {k : Nat} {R : List PyData → List PyData → Prop} (X : K.In h) (G : h.Ns mainGlobals mg) (D : Dd K x st) (hb : ∀ (kV doc pm : Value) (an : Option Addr) (cdv ct : Value) (us : List Value), us.length = ps.length → bindArgs (PySem.W.fnOf x x (defArgs st) (defBody st) (defScope st) .none kV doc pm an cdv ct) ⟨us, []⟩ = pure (ps.zip us))
    (ok : ∀ f fd, Fun K x x st f fd → GenOk P w K mg base k f fd ps R) : Gc P w K mg base k x ps R := by
  obtain ⟨f, od, an, sl, oc, kV, dc, pm, cd, ct, a, l, c, kk⟩ := D
  have F := fun_mk (st := st) l c kk
  exact ⟨f, _, ok f _ F, PySem.W.mg_of X G a, F.kp, F.binds hb⟩
structure Top (K : PySem.W.Frag) : Prop where
  isint : Dd K "is_integer" sIsInt
  inv : Dd K "inverse" sInv
  isrow : Dd K "is_row" sIsRow
  add : Dd K "add" sAdd
  scaled : Dd K "scaled" sScaled
  dot : Dd K "dot" sDot
  combine : Dd K "combine" sCombine
  cleared : Dd K "cleared" sCleared
  reduced : Dd K "reduced" sReduced
  span : Dd K "span" sSpan
  kernel : Dd K "kernel" sKernel
  sumof : Dd K "sum_of" sSumOf
  common : Dd K "common_part" sCommon
  all : Dd K "all_rows" sAll
  state : Dd K "_law_state" sLState
  take : Dd K "_law_take" sLTake
  lsum : Dd K "_law_sum" sLSum
  lscaled : Dd K "_law_scaled" sLScaled
  lzero : Dd K "_law_zero" sLZero
  element : Dd K "_law_element" sLElement
  lspan : Dd K "_law_span" sLSpan
  lform : Dd K "_law_in_form" sLForm
  lshows : Dd K "_law_shows" sLShows
  prime : Dd K "_law_prime" sLPrime
  width : Dd K "_law_width" sLWidth
  rows : Dd K "_law_rows" sLRows
  ldot : Dd K "_law_dot" sLDot
  ltotal : Dd K "_law_total" sLTotal
  lkinds : Dd K "_law_kinds" sLKinds
  b_zip : PySem.W.nsIn K mainGlobals "zip" = some none
  b_tuple : PySem.W.nsIn K mainGlobals "tuple" = some none
  b_list : PySem.W.nsIn K mainGlobals "list" = some none
  b_len : PySem.W.nsIn K mainGlobals "len" = some none
  b_range : PySem.W.nsIn K mainGlobals "range" = some none
  b_int : PySem.W.nsIn K mainGlobals "int" = some none
  b_bool : PySem.W.nsIn K mainGlobals "bool" = some none
  b_isinstance : PySem.W.nsIn K mainGlobals "isinstance" = some none
  b_sum : PySem.W.nsIn K mainGlobals "sum" = some none
  b_sorted : PySem.W.nsIn K mainGlobals "sorted" = some none
  b_abs : PySem.W.nsIn K mainGlobals "abs" = some none
theorem defs_of (X : K.In h) (G : h.Ns mainGlobals mg) (D : Top K) : Defs P w K mg base := by
  have T : Bi mg := ⟨PySem.W.mg_none_of X G D.b_zip, PySem.W.mg_none_of X G D.b_tuple, PySem.W.mg_none_of X G D.b_list, PySem.W.mg_none_of X G D.b_len, PySem.W.mg_none_of X G D.b_range, PySem.W.mg_none_of X G D.b_int, PySem.W.mg_none_of X G D.b_bool, PySem.W.mg_none_of X G D.b_isinstance, PySem.W.mg_none_of X G D.b_sum, PySem.W.mg_none_of X G D.b_sorted, PySem.W.mg_none_of X G D.b_abs⟩
  have isint : Fc P w K mg base 1 "is_integer" ["value"] (spF RIsInt) := fc_of X G D.isint (fun _ _ _ _ _ _ us hl => match us, hl with | [_], _ => rfl) fun f fd F => ok_isint F T
  have inv : Fc P w K mg base 1 "inverse" ["a", "p"] (spF RInv) := fc_of X G D.inv (fun _ _ _ _ _ _ us hl => match us, hl with | [_, _], _ => rfl) fun f fd F => ok_inv F T
  have isrow : Fc P w K mg base 2 "is_row" ["value", "p", "n"] (spF RIsRow) := fc_of X G D.isrow (fun _ _ _ _ _ _ us hl => match us, hl with | [_, _, _], _ => rfl) fun f fd F => ok_isrow F T isint
  have add : Fc P w K mg base 1 "add" ["v", "w", "p"] (spF RAdd) := fc_of X G D.add (fun _ _ _ _ _ _ us hl => match us, hl with | [_, _, _], _ => rfl) fun f fd F => ok_add F T
  have scaled : Fc P w K mg base 1 "scaled" ["v", "a", "p"] (spF RScaled) := fc_of X G D.scaled (fun _ _ _ _ _ _ us hl => match us, hl with | [_, _, _], _ => rfl) fun f fd F => ok_scaled F T
  have dot : Fc P w K mg base 1 "dot" ["v", "w", "p"] (spF RDot) := fc_of X G D.dot (fun _ _ _ _ _ _ us hl => match us, hl with | [_, _, _], _ => rfl) fun f fd F => ok_dot F T
  have combine : Fc P w K mg base 1 "combine" ["rows", "weights", "width", "p"] (spF RCombine) := fc_of X G D.combine (fun _ _ _ _ _ _ us hl => match us, hl with | [_, _, _, _], _ => rfl) fun f fd F => ok_combine F T
  have cleared : Fc P w K mg base 1 "cleared" ["row", "head", "at", "p"] (spF RCleared) := fc_of X G D.cleared (fun _ _ _ _ _ _ us hl => match us, hl with | [_, _, _, _], _ => rfl) fun f fd F => ok_cleared F T
  have reduced : Fc P w K mg base 2 "reduced" ["rows", "width", "p"] (spF RReduced) := fc_of X G D.reduced (fun _ _ _ _ _ _ us hl => match us, hl with | [_, _, _], _ => rfl) fun f fd F => ok_reduced F T inv scaled cleared
  have span : Fc P w K mg base 3 "span" ["rows", "width", "p"] (spF RSpan) := fc_of X G D.span (fun _ _ _ _ _ _ us hl => match us, hl with | [_, _, _], _ => rfl) fun f fd F => ok_span F T reduced
  have kernel : Fc P w K mg base 4 "kernel" ["rows", "width", "p"] (spF RKernel) := fc_of X G D.kernel (fun _ _ _ _ _ _ us hl => match us, hl with | [_, _, _], _ => rfl) fun f fd F => ok_kernel F T reduced span
  have sumof : Fc P w K mg base 4 "sum_of" ["a", "b", "width", "p"] (spF RSumOf) := fc_of X G D.sumof (fun _ _ _ _ _ _ us hl => match us, hl with | [_, _, _, _], _ => rfl) fun f fd F => ok_sumof F T span
  have common : Fc P w K mg base 5 "common_part" ["a", "b", "width", "p"] (spF RCommon) := fc_of X G D.common (fun _ _ _ _ _ _ us hl => match us, hl with | [_, _, _, _], _ => rfl) fun f fd F => ok_common F T kernel
  have all : Gc P w K mg base 2 "all_rows" ["space", "width", "p"] RAll := gc_of X G D.all (fun _ _ _ _ _ _ us hl => match us, hl with | [_, _, _], _ => rfl) fun f fd F => ok_all F T add scaled
  have state : Fc P w K mg base 1 "_law_state" ["_law_script"] (spState K) := fc_of X G D.state (fun _ _ _ _ _ _ us hl => match us, hl with | [_], _ => rfl) fun f fd F => ok_state F T
  have take : Fc P w K mg base 1 "_law_take" ["_law_state_here", "_law_m"] (spS OkTake RTake) := fc_of X G D.take (fun _ _ _ _ _ _ us hl => match us, hl with | [_, _], _ => rfl) fun f fd F => ok_take F T
  have lsum : Fc P w K mg base 1 "_law_sum" ["_law_v", "_law_w", "_law_p"] (spF RLSum) := fc_of X G D.lsum (fun _ _ _ _ _ _ us hl => match us, hl with | [_, _, _], _ => rfl) fun f fd F => ok_lsum F T
  have lscaled : Fc P w K mg base 1 "_law_scaled" ["_law_v", "_law_a", "_law_p"] (spF RScaled) := fc_of X G D.lscaled (fun _ _ _ _ _ _ us hl => match us, hl with | [_, _, _], _ => rfl) fun f fd F => ok_lscaled F T
  have lzero : Fc P w K mg base 1 "_law_zero" ["_law_n"] (spF RLZero) := fc_of X G D.lzero (fun _ _ _ _ _ _ us hl => match us, hl with | [_], _ => rfl) fun f fd F => ok_lzero F T
  have element : Fc P w K mg base 2 "_law_element" ["_law_state_here", "_law_p", "_law_n"] (spS OkEl REl) := fc_of X G D.element (fun _ _ _ _ _ _ us hl => match us, hl with | [_, _, _], _ => rfl) fun f fd F => ok_element F T take
  have lspan : Fc P w K mg base 2 "_law_span" ["_law_rows_here", "_law_n", "_law_p"] (spF RLSpan) := fc_of X G D.lspan (fun _ _ _ _ _ _ us hl => match us, hl with | [_, _, _], _ => rfl) fun f fd F => ok_lspan F T lzero lsum lscaled
  have lform : Fc P w K mg base 1 "_law_in_form" ["_law_told", "_law_n"] (spF RForm) := fc_of X G D.lform (fun _ _ _ _ _ _ us hl => match us, hl with | [_, _], _ => rfl) fun f fd F => ok_lform F T
  have lshows : Fc P w K mg base 3 "_law_shows" ["_law_told", "_law_words", "_law_n", "_law_p"] (spF RShows) := fc_of X G D.lshows (fun _ _ _ _ _ _ us hl => match us, hl with | [_, _, _, _], _ => rfl) fun f fd F => ok_lshows F T lform lspan
  have prime : Fc P w K mg base 2 "_law_prime" ["_law_state_here"] (spS (· = []) RPrime) := fc_of X G D.prime (fun _ _ _ _ _ _ us hl => match us, hl with | [_], _ => rfl) fun f fd F => ok_prime F T take
  have width : Fc P w K mg base 2 "_law_width" ["_law_state_here", "_law_p"] (spS (fun ds => ∃ p, Five p ∧ ds = [.int (p : Int)]) RWidth) := fc_of X G D.width (fun _ _ _ _ _ _ us hl => match us, hl with | [_, _], _ => rfl) fun f fd F => ok_width F T take
  have rows : Fc P w K mg base 3 "_law_rows" ["_law_state_here", "_law_p", "_law_n", "_law_most"] (spS OkRows RRows) := fc_of X G D.rows (fun _ _ _ _ _ _ us hl => match us, hl with | [_, _, _, _], _ => rfl) fun f fd F => ok_rows F T take element
  have ldot : Fc P w K mg base 1 "_law_dot" ["_law_p", "_law_v", "_law_w"] (spF RLDot) := fc_of X G D.ldot (fun _ _ _ _ _ _ us hl => match us, hl with | [_, _, _], _ => rfl) fun f fd F => ok_ldot F T
  have ltotal : Fc P w K mg base 2 "_law_total" ["_law_p", "_law_rows_here", "_law_weights", "_law_n"] (spF RLTotal) := fc_of X G D.ltotal (fun _ _ _ _ _ _ us hl => match us, hl with | [_, _, _, _], _ => rfl) fun f fd F => ok_ltotal F T lzero lsum lscaled
  have lkinds : Fc P w K mg base 3 "_law_kinds" ["_law_v", "_law_n", "_law_p"] (spF RKinds) := fc_of X G D.lkinds (fun _ _ _ _ _ _ us hl => match us, hl with | [_, _, _], _ => rfl) fun f fd F => ok_lkinds F T isrow
  exact ⟨T, state, take, element, prime, width, rows, lsum, lscaled, lspan, lshows, ldot, ltotal, lkinds, add, scaled, dot, combine, span, sumof, common, all⟩
theorem law_mk {l : PySem.W.OpenLaw} {fa : Addr} (X : K.In h) (G : h.Ns mainGlobals mg) (hfa : mg "law" = some (.ref fa)) (L : Dd K "law" sLaw) (D : Top K) :
    ∃ fd : FuncData, (∀ (s : Shared) (v : Value), BindsTo s fd ⟨[v], []⟩ [("_law_script", v)]) ∧ ∀ base : Heap, K.In base → base.Ns mainGlobals mg → FnOk l.prog w K mg base CX0 6 fa fd ["_law_script"] (spLaw K) := by
  obtain ⟨f, od, an, sl, oc, kV, dc, pm, cd, ct, a, lk, c, kk⟩ := L
  have e := hfa.symm.trans (PySem.W.mg_of X G a)
  cases e
  exact ⟨_, fun s v => .of_eq rfl, fun base _ _ => ok_law (fun_mk (st := sLaw) lk c kk) (defs_of X G D)⟩
end
end PcW
open PySem PySem.W PyProof.Rows
set_option Elab.async false
set_option maxRecDepth 100000 in
set_option maxHeartbeats 0 in
theorem PySem.Challenge.cw_polychains_k04_whole_spaces_holds : PySem.Challenge.rw_polychains_k04_whole_spaces.Holds := by
  w_on; o_law; k_head; (case hw => w_witness2)
  k_fill
  refine L2.walk_of (l := PySem.Challenge.rw_polychains_k04_whole_spaces) (n := 63) (k := 6) (x := "_law_script") (CX := fun _ => L2.CX0) (sp := fun w => PcW.spLaw _) rfl (by decide) rfl ⟨rfl, by decide, by decide⟩ (fun w h Y => PySem.W.kIn_of Y) ?F (fun _ _ a ns hl _ hS => ⟨a, ns, rfl, hS, hl, fun _ => rfl⟩) (fun _ _ _ _ _ h => h)
  case F =>
    intro w mg fa h KX G hmg
    refine' PcW.law_mk KX G hmg (PcW.dd_mk ?a0 ?l0 ?c0 ?k0) ⟨(PcW.dd_mk ?a1 ?l1 ?c1 ?k1), (PcW.dd_mk ?a2 ?l2 ?c2 ?k2), (PcW.dd_mk ?a3 ?l3 ?c3 ?k3), (PcW.dd_mk ?a4 ?l4 ?c4 ?k4), (PcW.dd_mk ?a5 ?l5 ?c5 ?k5), (PcW.dd_mk ?a6 ?l6 ?c6 ?k6), (PcW.dd_mk ?a7 ?l7 ?c7 ?k7), (PcW.dd_mk ?a8 ?l8 ?c8 ?k8), (PcW.dd_mk ?a9 ?l9 ?c9 ?k9), (PcW.dd_mk ?a10 ?l10 ?c10 ?k10), (PcW.dd_mk ?a11 ?l11 ?c11 ?k11), (PcW.dd_mk ?a12 ?l12 ?c12 ?k12), (PcW.dd_mk ?a13 ?l13 ?c13 ?k13), (PcW.dd_mk ?a14 ?l14 ?c14 ?k14), (PcW.dd_mk ?a15 ?l15 ?c15 ?k15), (PcW.dd_mk ?a16 ?l16 ?c16 ?k16), (PcW.dd_mk ?a17 ?l17 ?c17 ?k17), (PcW.dd_mk ?a18 ?l18 ?c18 ?k18), (PcW.dd_mk ?a19 ?l19 ?c19 ?k19), (PcW.dd_mk ?a20 ?l20 ?c20 ?k20), (PcW.dd_mk ?a21 ?l21 ?c21 ?k21), (PcW.dd_mk ?a22 ?l22 ?c22 ?k22), (PcW.dd_mk ?a23 ?l23 ?c23 ?k23), (PcW.dd_mk ?a24 ?l24 ?c24 ?k24), (PcW.dd_mk ?a25 ?l25 ?c25 ?k25), (PcW.dd_mk ?a26 ?l26 ?c26 ?k26), (PcW.dd_mk ?a27 ?l27 ?c27 ?k27), (PcW.dd_mk ?a28 ?l28 ?c28 ?k28), (PcW.dd_mk ?a29 ?l29 ?c29 ?k29), ?z1, ?z2, ?z3, ?z4, ?z5, ?z6, ?z7, ?z8, ?z9, ?z10, ?z11⟩
    (case a0 => k_is); (case l0 => k_is); (case c0 => k_is); (case k0 => k_is); (case a1 => k_is); (case l1 => k_is); (case c1 => k_is); (case k1 => k_is)
    (case a2 => k_is); (case l2 => k_is); (case c2 => k_is); (case k2 => k_is); (case a3 => k_is); (case l3 => k_is); (case c3 => k_is); (case k3 => k_is)
    (case a4 => k_is); (case l4 => k_is); (case c4 => k_is); (case k4 => k_is); (case a5 => k_is); (case l5 => k_is); (case c5 => k_is); (case k5 => k_is)
    (case a6 => k_is); (case l6 => k_is); (case c6 => k_is); (case k6 => k_is); (case a7 => k_is); (case l7 => k_is); (case c7 => k_is); (case k7 => k_is)
    (case a8 => k_is); (case l8 => k_is); (case c8 => k_is); (case k8 => k_is); (case a9 => k_is); (case l9 => k_is); (case c9 => k_is); (case k9 => k_is)
    (case a10 => k_is); (case l10 => k_is); (case c10 => k_is); (case k10 => k_is); (case a11 => k_is); (case l11 => k_is); (case c11 => k_is); (case k11 => k_is)
    (case a12 => k_is); (case l12 => k_is); (case c12 => k_is); (case k12 => k_is); (case a13 => k_is); (case l13 => k_is); (case c13 => k_is); (case k13 => k_is)
    (case a14 => k_is); (case l14 => k_is); (case c14 => k_is); (case k14 => k_is); (case a15 => k_is); (case l15 => k_is); (case c15 => k_is); (case k15 => k_is)
    (case a16 => k_is); (case l16 => k_is); (case c16 => k_is); (case k16 => k_is); (case a17 => k_is); (case l17 => k_is); (case c17 => k_is); (case k17 => k_is)
    (case a18 => k_is); (case l18 => k_is); (case c18 => k_is); (case k18 => k_is); (case a19 => k_is); (case l19 => k_is); (case c19 => k_is); (case k19 => k_is)
    (case a20 => k_is); (case l20 => k_is); (case c20 => k_is); (case k20 => k_is); (case a21 => k_is); (case l21 => k_is); (case c21 => k_is); (case k21 => k_is)
    (case a22 => k_is); (case l22 => k_is); (case c22 => k_is); (case k22 => k_is); (case a23 => k_is); (case l23 => k_is); (case c23 => k_is); (case k23 => k_is)
    (case a24 => k_is); (case l24 => k_is); (case c24 => k_is); (case k24 => k_is); (case a25 => k_is); (case l25 => k_is); (case c25 => k_is); (case k25 => k_is)
    (case a26 => k_is); (case l26 => k_is); (case c26 => k_is); (case k26 => k_is); (case a27 => k_is); (case l27 => k_is); (case c27 => k_is); (case k27 => k_is)
    (case a28 => k_is); (case l28 => k_is); (case c28 => k_is); (case k28 => k_is); (case a29 => k_is); (case l29 => k_is); (case c29 => k_is); (case k29 => k_is)
    (case z1 => k_is); (case z2 => k_is); (case z3 => k_is); (case z4 => k_is); (case z5 => k_is); (case z6 => k_is); (case z7 => k_is); (case z8 => k_is)
    (case z9 => k_is); (case z10 => k_is); (case z11 => k_is)
