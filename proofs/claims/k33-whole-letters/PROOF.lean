import PyProof.Rows.All
import Wide.All
import OpenK.AllK
import Wide.FinOn
import HandS.ForMost
import HandS.Deep
import HandS.Conv
import HandS.TupLen
import HandS.Evl
import KE.KDictKeyed
import HandS.SortKw
import KE.LtData
import KE.KSortKey
import HandS.Steps
import HandS.IsInst
import HandS.TupAny
import HandS.More
import HandS.MakeKw
import HandS.Defaults
import PySem.Challenge.RW_newsways_k33_whole_letters_lead_to_what
import KE.KStateDown
import Lean
import HandS.Head0
import HandS.Head1
import HandS.Head2
import HandS.HeadEnd
import HandS.HeadHook1
import HandS.HeadHook2
set_option Elab.async false
set_option linter.all false
set_option maxRecDepth 100000
set_option maxHeartbeats 4000000
/-! K1: the mathematics: wishes, covering, the greatest ones, letters heard. No Python here. -/
namespace K33
open PySem
abbrev Sp2 := Option Int × Option Int
abbrev Part := Str × Sp2
abbrev Wish := List Part
/-! ### texts -/
/-- one of the 26 small letters -/
def small (c : Nat) : Prop := 97 ≤ c ∧ c ≤ 122
def NameOk (x : Str) : Prop := 1 ≤ x.cps.toList.length ∧ x.cps.toList.length ≤ 8 ∧ ∀ c ∈ x.cps.toList, small c
/-! ### spans, parts, wishes -/
def loOk (low least : Option Int) : Bool := match low with
  | none => true
  | some l => match least with
    | none => false
    | some m => decide (l ≤ m)
def hiOk (high most : Option Int) : Bool := match high with
  | none => true
  | some h => match most with
    | none => false
    | some m => decide (m ≤ h)
def fnd (w : Wish) (f : Str) : Option Sp2 := (w.find? fun p => decide (p.1 = f)).map (·.2)
def cov1 (other : Wish) (p : Part) : Bool := match fnd other p.1 with
  | none => false
  | some s => loOk p.2.1 s.1 && hiOk p.2.2 s.2
/-- one wish covers another -/
def cov (one other : Wish) : Bool := one.all (cov1 other)
structure WOk (w : Wish) : Prop where
  asc : w.Pairwise fun p q => p.1.cps.toList < q.1.cps.toList
  fld : ∀ p ∈ w, NameOk p.1
  len : w.length ≤ 64
  spn : ∀ p ∈ w, ∀ l h : Int, p.2.1 = some l → p.2.2 = some h → l ≤ h
theorem lo_refl (x : Option Int) : loOk x x = true := by cases x <;> simp [loOk]
theorem hi_refl (x : Option Int) : hiOk x x = true := by cases x <;> simp [hiOk]
theorem lo_trans {x y z : Option Int} (h1 : loOk x y = true) (h2 : loOk y z = true) : loOk x z = true := by
  cases x with
  | none => rfl
  | some a => cases y with
    | none => simp [loOk] at h1
    | some b => cases z with
      | none => simp [loOk] at h2
      | some c => simp [loOk] at h1 h2 ⊢; omega
theorem hi_trans {x y z : Option Int} (h1 : hiOk x y = true) (h2 : hiOk y z = true) : hiOk x z = true := by
  cases x with
  | none => rfl
  | some a => cases y with
    | none => simp [hiOk] at h1
    | some b => cases z with
      | none => simp [hiOk] at h2
      | some c => simp [hiOk] at h1 h2 ⊢; omega
theorem lo_anti {x y : Option Int} (h1 : loOk x y = true) (h2 : loOk y x = true) : x = y := by
  cases x with
  | none => cases y with
    | none => rfl
    | some b => simp [loOk] at h2
  | some a => cases y with
    | none => simp [loOk] at h1
    | some b => simp [loOk] at h1 h2; congr 1; omega
theorem hi_anti {x y : Option Int} (h1 : hiOk x y = true) (h2 : hiOk y x = true) : x = y := by
  cases x with
  | none => cases y with
    | none => rfl
    | some b => simp [hiOk] at h2
  | some a => cases y with
    | none => simp [hiOk] at h1
    | some b => simp [hiOk] at h1 h2; congr 1; omega
theorem fnd_mem {w : Wish} {f : Str} {s : Sp2} (h : fnd w f = some s) : (f, s) ∈ w := by
  unfold fnd at h
  obtain ⟨p, hp, e⟩ := Option.map_eq_some_iff.mp h
  have h1 := List.mem_of_find?_eq_some hp
  have h2 := List.find?_some hp
  have e1 : p.1 = f := of_decide_eq_true h2
  subst e1 e
  exact h1
theorem fnd_of {w : Wish} (h : w.Pairwise fun p q => p.1.cps.toList < q.1.cps.toList) {p : Part} (hp : p ∈ w) : fnd w p.1 = some p.2 := by
  induction w with
  | nil => cases hp
  | cons a r ih =>
    obtain ⟨h1, h2⟩ := List.pairwise_cons.mp h
    unfold fnd
    rw [List.find?_cons]
    rcases List.mem_cons.mp hp with e | hp
    · subst e; simp
    · have ne : ¬ a.1 = p.1 := fun e => by
        have := h1 p hp
        rw [e] at this
        exact absurd this (List.lt_irrefl _)
      simp only [ne, decide_false]
      exact ih h2 hp
theorem cov_refl {w : Wish} (h : WOk w) : cov w w = true := by
  refine List.all_eq_true.mpr fun p hp => ?_
  unfold cov1
  rw [fnd_of h.asc hp]
  simp [lo_refl, hi_refl]
theorem cov_get {a b : Wish} (h : cov a b = true) {p : Part} (hp : p ∈ a) : ∃ s, fnd b p.1 = some s ∧ loOk p.2.1 s.1 = true ∧ hiOk p.2.2 s.2 = true := by
  have h1 := List.all_eq_true.mp h p hp
  unfold cov1 at h1
  cases e : fnd b p.1 with
  | none => rw [e] at h1; cases h1
  | some s =>
    rw [e] at h1
    exact ⟨s, rfl, Bool.and_eq_true_iff.mp h1⟩
theorem cov_trans {a b c : Wish} (h1 : cov a b = true) (h2 : cov b c = true) : cov a c = true := by
  refine List.all_eq_true.mpr fun p hp => ?_
  obtain ⟨s, e1, l1, u1⟩ := cov_get h1 hp
  obtain ⟨t, e2, l2, u2⟩ := cov_get h2 (fnd_mem e1)
  unfold cov1
  have e2' : fnd c p.1 = some t := e2
  rw [e2']
  simp [lo_trans l1 l2, hi_trans u1 u2]
theorem cov_sub {a b : Wish} (ha : WOk a) (h1 : cov a b = true) (h2 : cov b a = true) {p : Part} (hp : p ∈ a) : p ∈ b := by
  obtain ⟨s, e1, l1, u1⟩ := cov_get h1 hp
  obtain ⟨t, e2, l2, u2⟩ := cov_get h2 (fnd_mem e1)
  have e2' : fnd a p.1 = some t := e2
  rw [fnd_of ha.asc hp] at e2'
  cases e2'
  have q : p = (p.1, s) := by
    obtain ⟨f, x, y⟩ := p
    obtain ⟨x', y'⟩ := s
    have q1 : x = x' := lo_anti l1 l2
    have q2 : y = y' := hi_anti u1 u2
    rw [q1, q2]
  rw [q]
  exact fnd_mem e1
/-- two rising lists of the same members are one -/
theorem asc_eq {α : Type} {lt : α → α → Prop} (irr : ∀ x, ¬ lt x x) (tr : ∀ x y z, lt x y → lt y z → lt x z) : ∀ {l m : List α}, l.Pairwise lt → m.Pairwise lt → (∀ x, x ∈ l ↔ x ∈ m) → l = m
  | [], [], _, _, _ => rfl
  | [], b :: m, _, _, h => by have := (h b).mpr (List.mem_cons_self ..); cases this
  | a :: l, [], _, _, h => by have := (h a).mp (List.mem_cons_self ..); cases this
  | a :: l, b :: m, hl, hm, h => by
    obtain ⟨l1, l2⟩ := List.pairwise_cons.mp hl
    obtain ⟨m1, m2⟩ := List.pairwise_cons.mp hm
    have e : a = b := by
      rcases List.mem_cons.mp ((h a).mp (List.mem_cons_self ..)) with e | q
      · exact e
      · rcases List.mem_cons.mp ((h b).mpr (List.mem_cons_self ..)) with e | q'
        · exact e.symm
        · exact absurd (tr _ _ _ (l1 b q') (m1 a q)) (irr _)
    subst e
    refine congrArg (a :: ·) (asc_eq irr tr l2 m2 fun x => ⟨fun hx => ?_, fun hx => ?_⟩)
    · rcases List.mem_cons.mp ((h x).mp (List.mem_cons_of_mem _ hx)) with e | q
      · subst e; exact absurd (l1 _ hx) (irr _)
      · exact q
    · rcases List.mem_cons.mp ((h x).mpr (List.mem_cons_of_mem _ hx)) with e | q
      · subst e; exact absurd (m1 _ hx) (irr _)
      · exact q
theorem cov_anti {a b : Wish} (ha : WOk a) (hb : WOk b) (h1 : cov a b = true) (h2 : cov b a = true) : a = b :=
  asc_eq (lt := fun p q : Part => p.1.cps.toList < q.1.cps.toList) (fun _ => List.lt_irrefl _) (fun _ _ _ => List.lt_trans) ha.asc hb.asc fun _ => ⟨cov_sub ha h1 h2, cov_sub hb h2 h1⟩
/-! ### the greatest ones -/
/-- gs are the greatest of ws -/
structure IsGr (gs ws : List Wish) : Prop where
  nd : gs.Nodup
  iff : ∀ w, w ∈ gs ↔ w ∈ ws ∧ ∀ o ∈ ws, o ≠ w → cov o w = false
def AllOk (ws : List Wish) : Prop := ∀ w ∈ ws, WOk w
def abv (ws : List Wish) (w : Wish) : Nat := ws.countP fun o => decide (o ≠ w) && cov o w
theorem count_lt {α : Type} {p q : α → Bool} : ∀ {l : List α}, (∀ x ∈ l, p x = true → q x = true) → (∃ x ∈ l, q x = true ∧ p x = false) → l.countP p < l.countP q
  | [], _, ⟨x, hx, _⟩ => by cases hx
  | a :: l, h, ⟨x, hx, h1, h2⟩ => by
    have hle : l.countP p ≤ l.countP q := List.countP_mono_left fun y hy => h y (List.mem_cons_of_mem _ hy)
    rcases List.mem_cons.mp hx with e | hx
    · subst e
      rw [List.countP_cons_of_neg (by rw [h2]; decide), List.countP_cons_of_pos h1]
      omega
    · have ih := count_lt (fun y hy => h y (List.mem_cons_of_mem _ hy)) ⟨x, hx, h1, h2⟩
      cases e : p a with
      | true =>
        rw [List.countP_cons_of_pos e, List.countP_cons_of_pos (h a (List.mem_cons_self ..) e)]
        omega
      | false =>
        rw [List.countP_cons_of_neg (by rw [e]; decide)]
        have : l.countP q ≤ (a :: l).countP q := by rw [List.countP_cons]; omega
        omega
theorem gr_over {gs ws : List Wish} (g : IsGr gs ws) (ok : AllOk ws) : ∀ (n : Nat) (w : Wish), w ∈ ws → abv ws w ≤ n → ∃ o ∈ gs, cov o w = true := by
  intro n
  induction n with
  | zero =>
    intro w hw hn
    refine ⟨w, (g.iff w).mpr ⟨hw, fun o ho ne => ?_⟩, cov_refl (ok w hw)⟩
    cases e : cov o w with
    | false => rfl
    | true =>
      have : 0 < abv ws w := List.countP_pos_iff.mpr ⟨o, ho, by simp [ne, e]⟩
      omega
  | succ n ih =>
    intro w hw hn
    by_cases h : ∃ o ∈ ws, o ≠ w ∧ cov o w = true
    · obtain ⟨o, ho, ne, hc⟩ := h
      have lt : abv ws o < abv ws w := count_lt (fun x hx hp => by
        simp only [Bool.and_eq_true, decide_eq_true_eq] at hp ⊢
        refine ⟨fun e => ?_, cov_trans hp.2 hc⟩
        subst e
        exact ne (cov_anti (ok o ho) (ok x hx) hc hp.2)) ⟨o, ho, by simp [ne, hc], by simp⟩
      obtain ⟨u, hu, hc'⟩ := ih o ho (by omega)
      exact ⟨u, hu, cov_trans hc' hc⟩
    · refine ⟨w, (g.iff w).mpr ⟨hw, fun o ho ne => ?_⟩, cov_refl (ok w hw)⟩
      cases e : cov o w with
      | false => rfl
      | true => exact absurd ⟨o, ho, ne, e⟩ h
theorem IsGr.over {gs ws : List Wish} (g : IsGr gs ws) (ok : AllOk ws) {w : Wish} (hw : w ∈ ws) : ∃ o ∈ gs, cov o w = true := gr_over g ok _ w hw (Nat.le_refl _)
theorem IsGr.sub {gs ws : List Wish} (g : IsGr gs ws) {w : Wish} (h : w ∈ gs) : w ∈ ws := ((g.iff w).mp h).1
theorem IsGr.top {gs ws : List Wish} (g : IsGr gs ws) {o w : Wish} (h : w ∈ gs) (ho : o ∈ gs) (ne : o ≠ w) : cov o w = false := ((g.iff w).mp h).2 o (g.sub ho) ne
theorem IsGr.congr {gs gs' ws ws' : List Wish} (g : IsGr gs ws) (hp : gs'.Perm gs) (h : ∀ w, w ∈ ws ↔ w ∈ ws') : IsGr gs' ws' :=
  ⟨hp.nodup_iff.mpr g.nd, fun w => by rw [hp.mem_iff, g.iff w]; exact ⟨fun ⟨a, b⟩ => ⟨(h w).mp a, fun o ho => b o ((h o).mpr ho)⟩, fun ⟨a, b⟩ => ⟨(h w).mpr a, fun o ho => b o ((h o).mp ho)⟩⟩⟩
theorem IsGr.nil : IsGr [] [] := ⟨List.nodup_nil, fun w => ⟨fun h => (by cases h), fun h => (by cases h.1)⟩⟩
/-- the greatest by a filter of the unlike ones -/
theorem IsGr.of_filter {some gs ws : List Wish} (nd : some.Nodup) (h : ∀ w, w ∈ some ↔ w ∈ ws) (f : Wish → Bool) (hf : ∀ w ∈ some, f w = true ↔ ∀ o ∈ some, o ≠ w → cov o w = false) (hp : gs.Perm (some.filter f)) : IsGr gs ws := by
  refine ⟨hp.nodup_iff.mpr (nd.filter _), fun w => ?_⟩
  rw [hp.mem_iff, List.mem_filter]
  refine ⟨fun ⟨a, b⟩ => ⟨(h w).mp a, fun o ho => (hf w a).mp b o ((h o).mpr ho)⟩, fun ⟨a, b⟩ => ?_⟩
  have a' := (h w).mpr a
  exact ⟨a', (hf w a').mpr fun o ho => b o ((h o).mp ho)⟩
end K33
/-! K2: wishes in the heap; dicts whose keys are wishes. -/
namespace K33
open PySem PySem.Spec PyProof.Rows L2 Evl
/-! ### wishes as data -/
def oD : Option Int → PyData
  | none => .none
  | some i => .int i
def oV : Option Int → V
  | none => .non
  | some i => .int i
def pD (p : Part) : PyData := .tuple [.str p.1, oD p.2.1, oD p.2.2]
def wD (w : Wish) : PyData := .tuple (w.map pD)
def lD (ws : List Wish) : PyData := .list (ws.map wD)
theorem oD_depth (o : Option Int) : (oD o).depth = 0 := by cases o <;> simp [oD, PyData.depth]
theorem oD_lay (o : Option Int) : (oD o).canLay0 = true := by cases o <;> simp [oD, PyData.canLay0]
theorem oD_eqv (a b : Option Int) : PyData.eqv (oD a) (oD b) = decide (a = b) := by
  cases a <;> cases b <;> simp [oD, PyData.eqv, Bool.beq_eq_decide_eq]
theorem pD_depth (p : Part) : (pD p).depth = 1 := by simp [pD, PyData.depth, PyData.depthAll, oD_depth]
theorem small_ok {x : Str} (h : ∀ c ∈ x.cps.toList, small c) : PyData.strOk x = true := by
  show x.cps.all (· < 0x110000) = true
  rw [← Array.all_toList]
  refine List.all_eq_true.mpr fun c hc => decide_eq_true ?_
  have := (h c hc).2
  omega
def FOk (w : Wish) : Prop := ∀ p ∈ w, PyData.strOk p.1 = true
theorem WOk.f {w : Wish} (h : WOk w) : FOk w := fun p hp => small_ok (h.fld p hp).2.2
theorem pD_lay {p : Part} (h : PyData.strOk p.1 = true) : (pD p).canLay0 = true := by simp [pD, PyData.canLay0, PyData.canLayAll0, oD_lay, h]
theorem pDs_depth : ∀ w : Wish, PyData.depthAll (w.map pD) ≤ 1
  | [] => by simp [PyData.depthAll]
  | p :: w => by
    have := pDs_depth w
    have := pD_depth p
    simp only [List.map_cons, PyData.depthAll]
    omega
theorem pDs_lay : ∀ {w : Wish}, FOk w → PyData.canLayAll0 (w.map pD) = true
  | [], _ => by simp [PyData.canLayAll0]
  | p :: w, h => by simp [PyData.canLayAll0, pD_lay (h p (List.mem_cons_self ..)), pDs_lay (fun q hq => h q (List.mem_cons_of_mem _ hq))]
theorem wD_depth (w : Wish) : (wD w).depth ≤ 2 := by
  have := pDs_depth w
  simp only [wD, PyData.depth]; omega
theorem wD_lay {w : Wish} (h : WOk w) : (wD w).canLay0 = true := by simp [wD, PyData.canLay0, pDs_lay h.f]
theorem wDs_depth : ∀ ws : List Wish, PyData.depthAll (ws.map wD) ≤ 2
  | [] => by simp [PyData.depthAll]
  | w :: ws => by
    have := wDs_depth ws
    have := wD_depth w
    simp only [List.map_cons, PyData.depthAll]
    omega
theorem wDs_lay : ∀ {ws : List Wish}, AllOk ws → PyData.canLayAll0 (ws.map wD) = true
  | [], _ => by simp [PyData.canLayAll0]
  | w :: ws, h => by simp [PyData.canLayAll0, wD_lay (h w (List.mem_cons_self ..)), wDs_lay (fun q hq => h q (List.mem_cons_of_mem _ hq))]
theorem shaped_of {d : PyData} (h1 : d.canLay0 = true) (h2 : d.depth ≤ 64) : SeqAt.shaped d = true := by
  show (d.canLay0 && decide (d.depth ≤ 64)) = true
  rw [h1, decide_eq_true h2] <;> rfl
theorem wD_shaped {w : Wish} (h : WOk w) : SeqAt.shaped (wD w) = true := shaped_of (wD_lay h) (by have := wD_depth w; omega)
theorem lD_shaped {ws : List Wish} (h : AllOk ws) : SeqAt.shaped (lD ws) = true := shaped_of (by simp [lD, PyData.canLay0, wDs_lay h]) (by have := wDs_depth ws; simp only [lD, PyData.depth]; omega)
theorem pD_eqv (p q : Part) : PyData.eqv (pD p) (pD q) = decide (p = q) := by
  obtain ⟨f, a, b⟩ := p
  obtain ⟨g, c, d⟩ := q
  have e : PyData.eqv (pD (f, a, b)) (pD (g, c, d)) = (decide (f = g) && (decide (a = c) && (decide (b = d) && true))) := by
    simp only [pD, PyData.eqv, PyData.eqvAll, oD_eqv, Bool.beq_eq_decide_eq]
  rw [e]
  by_cases h1 : f = g <;> by_cases h2 : a = c <;> by_cases h3 : b = d <;> simp [h1, h2, h3]
theorem pDs_eqv : ∀ v w : Wish, PyData.eqvAll (v.map pD) (w.map pD) = decide (v = w)
  | [], [] => by simp [PyData.eqvAll]
  | [], q :: w => by simp [PyData.eqvAll]
  | p :: v, [] => by simp [PyData.eqvAll]
  | p :: v, q :: w => by
    simp only [List.map_cons, PyData.eqvAll, pD_eqv, pDs_eqv v w]
    by_cases h1 : p = q <;> by_cases h2 : v = w <;> simp [h1, h2]
theorem wD_eqv (v w : Wish) : PyData.eqv (wD v) (wD w) = decide (v = w) := by
  simp only [wD, PyData.eqv]; exact pDs_eqv v w
theorem wDs_eqv : ∀ v w : List Wish, PyData.eqvAll (v.map wD) (w.map wD) = decide (v = w)
  | [], [] => by simp [PyData.eqvAll]
  | [], q :: w => by simp [PyData.eqvAll]
  | p :: v, [] => by simp [PyData.eqvAll]
  | p :: v, q :: w => by
    simp only [List.map_cons, PyData.eqvAll, wD_eqv, wDs_eqv v w]
    by_cases h1 : p = q <;> by_cases h2 : v = w <;> simp [h1, h2]
theorem lD_eqv (v w : List Wish) : PyData.eqv (lD v) (lD w) = decide (v = w) := by
  simp only [lD, PyData.eqv]; exact wDs_eqv v w
theorem any_eqv (ws : List Wish) (w : Wish) : ((ws.map wD).any fun z => PyData.eqv z (wD w)) = decide (w ∈ ws) := by
  induction ws with
  | nil => simp
  | cons a r ih =>
    rw [List.map_cons, List.any_cons, ih, wD_eqv]
    by_cases h1 : a = w
    · simp [h1]
    · have h2 : ¬ w = a := fun e => h1 e.symm
      simp [h1, h2]

end K33
/-! ### data in the abstract heap -/
namespace L2
open PySem PySem.Spec PyProof.Rows Evl
section
variable {K : PySem.W.Frag} {H H' : Hp}
theorem ex_seqL {a : Addr} {xs : List V} (e : Ex H H') (h : SqL K H a xs) : SqL K H' a xs := ex_l e h
mutual
theorem Dp.mono (sl : ∀ a xs, SqL K H a xs → SqL K H' a xs) (st : ∀ a xs, SqT K H a xs → SqT K H' a xs) : ∀ {v : V} {d : PyData}, Dp K H v d → Dp K H' v d
  | _, _, .non => .non
  | _, _, .bl b => .bl b
  | _, _, .int i => .int i
  | _, _, .str x => .str x
  | _, _, .lst h a => .lst (sl _ _ h) (DpAll.mono sl st a)
  | _, _, .tup h a => .tup (st _ _ h) (DpAll.mono sl st a)
theorem DpAll.mono (sl : ∀ a xs, SqL K H a xs → SqL K H' a xs) (st : ∀ a xs, SqT K H a xs → SqT K H' a xs) : ∀ {vs : List V} {ds : List PyData}, DpAll K H vs ds → DpAll K H' vs ds
  | _, _, .nil => .nil
  | _, _, .cons h t => .cons (Dp.mono sl st h) (DpAll.mono sl st t)
end
theorem Dp.ex (e : Ex H H') {v : V} {d : PyData} (h : Dp K H v d) : Dp K H' v d := Dp.mono (fun _ _ => ex_l e) (fun _ _ => ex_t e) h
theorem DpAll.ex (e : Ex H H') {vs : List V} {ds : List PyData} (h : DpAll K H vs ds) : DpAll K H' vs ds := DpAll.mono (fun _ _ => ex_l e) (fun _ _ => ex_t e) h
theorem Dp.tup_inv {v : V} {ds : List PyData} (h : Dp K H v (.tuple ds)) : ∃ a xs, v = .ref a ∧ SqT K H a xs ∧ DpAll K H xs ds := by
  cases h with
  | tup h a => exact ⟨_, _, rfl, h, a⟩
theorem Dp.lst_inv {v : V} {ds : List PyData} (h : Dp K H v (.list ds)) : ∃ a xs, v = .ref a ∧ SqL K H a xs ∧ DpAll K H xs ds := by
  cases h with
  | lst h a => exact ⟨_, _, rfl, h, a⟩
theorem DpAll.length : ∀ {vs : List V} {ds : List PyData}, DpAll K H vs ds → vs.length = ds.length
  | _, _, .nil => rfl
  | _, _, .cons _ t => congrArg Nat.succ (DpAll.length t)
theorem DpAll.get : ∀ {vs : List V} {ds : List PyData} {i : Nat} {v : V}, DpAll K H vs ds → vs[i]? = some v → ∃ d, ds[i]? = some d ∧ Dp K H v d
  | _, _, _, _, .nil, h => by simp at h
  | _, _, 0, v, .cons h t, e => by
    have e' : _ = v := Option.some.inj (by simpa using e)
    subst e'
    exact ⟨_, rfl, h⟩
  | _, _, i + 1, v, .cons h t, e => by
    obtain ⟨d, h1, h2⟩ := DpAll.get (i := i) t (by simpa using e)
    exact ⟨d, by simpa using h1, h2⟩
theorem DpAll.append : ∀ {vs us : List V} {ds es : List PyData}, DpAll K H vs ds → DpAll K H us es → DpAll K H (vs ++ us) (ds ++ es)
  | _, _, _, _, .nil, b => b
  | _, _, _, _, .cons h t, b => .cons h (DpAll.append t b)
theorem DpAll.take : ∀ (n : Nat) {vs : List V} {ds : List PyData}, DpAll K H vs ds → DpAll K H (vs.take n) (ds.take n)
  | 0, _, _, _ => by simp only [List.take_zero]; exact .nil
  | n + 1, _, _, .nil => by simp only [List.take_nil]; exact .nil
  | n + 1, _, _, .cons h t => by simp only [List.take_succ_cons]; exact .cons h (DpAll.take n t)
theorem DpAll.drop : ∀ (n : Nat) {vs : List V} {ds : List PyData}, DpAll K H vs ds → DpAll K H (vs.drop n) (ds.drop n)
  | 0, _, _, h => by simpa using h
  | n + 1, _, _, .nil => by simp only [List.drop_nil]; exact .nil
  | n + 1, _, _, .cons h t => by simp only [List.drop_succ_cons]; exact DpAll.drop n t
end
end L2
namespace K33
open PySem PySem.Spec PyProof.Rows L2 Evl
section
variable {K : PySem.W.Frag} {H H' : Hp}
/-- the value v is the wish w -/
abbrev WA (K : PySem.W.Frag) (H : Hp) (v : V) (w : Wish) : Prop := Dp K H v (wD w)
/-- the values xs are the wishes ws -/
abbrev WAs (K : PySem.W.Frag) (H : Hp) (xs : List V) (ws : List Wish) : Prop := DpAll K H xs (ws.map wD)
/-- at a stands a list of the wishes ws -/
def LA (K : PySem.W.Frag) (H : Hp) (a : Addr) (ws : List Wish) : Prop := ∃ xs, SqL K H a xs ∧ WAs K H xs ws
theorem LA.dp {a : Addr} {ws : List Wish} (h : LA K H a ws) : Dp K H (.ref a) (lD ws) := let ⟨xs, h1, h2⟩ := h; .lst h1 h2
theorem LA.ex {a : Addr} {ws : List Wish} (e : Ex H H') (h : LA K H a ws) : LA K H' a ws := let ⟨xs, h1, h2⟩ := h; ⟨xs, ex_l e h1, h2.ex e⟩
theorem WAs.get {xs : List V} {ws : List Wish} {i : Nat} {v : V} (h : WAs K H xs ws) (e : xs[i]? = some v) : ∃ w, ws[i]? = some w ∧ WA K H v w := by
  obtain ⟨d, h1, h2⟩ := DpAll.get h e
  rw [List.getElem?_map] at h1
  obtain ⟨w, hw, rfl⟩ := Option.map_eq_some_iff.mp h1
  exact ⟨w, hw, h2⟩
theorem WAs.length {xs : List V} {ws : List Wish} (h : WAs K H xs ws) : xs.length = ws.length := by rw [DpAll.length h, List.length_map]
theorem WA.ref {v : V} {w : Wish} (h : WA K H v w) : ∃ a xs, v = .ref a ∧ SqT K H a xs ∧ DpAll K H xs (w.map pD) := h.tup_inv
theorem oD_rel {v : V} {o : Option Int} (h : Dp K H v (oD o)) : v = oV o := by
  cases o with
  | none => cases h; rfl
  | some i => cases h; rfl
theorem oD_of (o : Option Int) : Dp K H (oV o) (oD o) := by
  cases o with
  | none => exact .non
  | some i => exact .int i
theorem pD_inv {v : V} {p : Part} (h : Dp K H v (pD p)) : ∃ a, v = .ref a ∧ SqT K H a [.str p.1, oV p.2.1, oV p.2.2] := by
  obtain ⟨a, xs, rfl, h1, h2⟩ := h.tup_inv
  cases h2 with
  | cons a1 t1 => cases t1 with
    | cons a2 t2 => cases t2 with
      | cons a3 t3 =>
        cases t3
        cases a1
        cases oD_rel a2
        cases oD_rel a3
        exact ⟨a, rfl, h1⟩
end
/-! ### a wish as a key -/
def ok1 : Option Int → NestedKey
  | none => .none
  | some i => .num i
def pk1 (p : Part) : NestedKey := .tup [.text p.1, ok1 p.2.1, ok1 p.2.2]
def nk (w : Wish) : NestedKey := .tup (w.map pk1)
theorem ok1_inj {a b : Option Int} (h : ok1 a = ok1 b) : a = b := by
  cases a <;> cases b <;> simp [ok1] at h ⊢
  exact h
theorem pk1_inj {p q : Part} (h : pk1 p = pk1 q) : p = q := by
  obtain ⟨f, a, b⟩ := p
  obtain ⟨g, c, d⟩ := q
  simp only [pk1, NestedKey.tup.injEq, List.cons.injEq, NestedKey.text.injEq] at h
  obtain ⟨h1, h2, h3, _⟩ := h
  rw [h1, ok1_inj h2, ok1_inj h3]
theorem map_inj {α β : Type} {f : α → β} (hf : ∀ {a b}, f a = f b → a = b) : ∀ {l m : List α}, l.map f = m.map f → l = m
  | [], [], _ => rfl
  | [], _ :: _, h => by simp at h
  | _ :: _, [], h => by simp at h
  | a :: l, b :: m, h => by
    simp only [List.map_cons, List.cons.injEq] at h
    rw [hf h.1, map_inj hf h.2]
theorem nk_inj {v w : Wish} (h : nk v = nk w) : v = w := by
  simp only [nk, NestedKey.tup.injEq] at h
  exact map_inj pk1_inj h
theorem nk_dec (v w : Wish) : decide (nk v = nk w) = decide (v = w) := by
  by_cases h : v = w
  · subst h; simp
  · rw [decide_eq_false h, decide_eq_false fun e => h (nk_inj e)]
theorem pk1_depth (p : Part) : (pk1 p).depth = 1 := by
  obtain ⟨f, a, b⟩ := p
  cases a <;> cases b <;> simp [pk1, ok1, NestedKey.depth, NestedKey.depthAll]
theorem nk_depth (w : Wish) : (nk w).depth ≤ 8 := by
  have : ∀ w : Wish, NestedKey.depthAll (w.map pk1) ≤ 1 := by
    intro w
    induction w with
    | nil => simp [NestedKey.depthAll]
    | cons p r ih => have := pk1_depth p; simp only [List.map_cons, NestedKey.depthAll]; omega
  have := this w
  simp only [nk, NestedKey.depth]; omega
section
variable {X : Cx} {pins : List (Addr × Obj)} {σ : L2.St} {H : Hp} {s : Shared}
theorem nest_o {o : Option Int} {u : Value} (r : RelV (oV o) u) : NestedIs s.heap (ok1 o) u := by
  cases o with
  | none => obtain rfl : u = Value.none := r; exact .none
  | some i => obtain ⟨t, rfl⟩ := (show ∃ t, u = Value.int i t from r); exact .int i t
theorem nest_p (I : Inv X pins σ H s) {v : V} {p : Part} {u : Value} (h : Dp X.K H v (pD p)) (r : RelV v u) : NestedIs s.heap (pk1 p) u := by
  obtain ⟨a, rfl, h1⟩ := pD_inv h
  obtain rfl : u = Value.ref a := r
  obtain ⟨its, rv, ⟨o, ho, hc, n, hd⟩, _⟩ := I.tuple h1
  cases rv with
  | cons r1 t1 => cases t1 with
    | cons r2 t2 => cases t2 with
      | cons r3 t3 =>
        cases t3
        refine .tup ho hc hd ?_
        obtain ⟨t, e⟩ := r1
        subst e
        exact .cons (.text _ t) (.cons (nest_o r2) (.cons (nest_o r3) .nil))
theorem nest_ps (I : Inv X pins σ H s) : ∀ {w : Wish} {xs : List V} {us : List Value}, DpAll X.K H xs (w.map pD) → Vals xs us → NestedAll s.heap (w.map pk1) us
  | [], _, _, h, r => by cases h; cases r; exact .nil
  | p :: w, _, _, h, r => by
    cases h with
    | cons h1 h2 => cases r with
      | cons r1 r2 => exact .cons (nest_p I h1 r1) (nest_ps I h2 r2)
theorem nest_w (I : Inv X pins σ H s) {v : V} {w : Wish} {u : Value} (h : WA X.K H v w) (r : RelV v u) : NestedIs s.heap (nk w) u := by
  obtain ⟨a, xs, rfl, h1, h2⟩ := h.ref
  obtain rfl : u = Value.ref a := r
  obtain ⟨its, rv, ⟨o, ho, hc, n, hd⟩, _⟩ := I.tuple h1
  exact .tup ho hc hd (by simpa using nest_ps I h2 rv)
end
/-! ### dicts keyed by wishes: entries (wish, where its tuple stands, value) -/
abbrev NE := List (Wish × Addr × V)
def relNE : NE → List (NestedKey × Addr × Value) → Prop := Paired fun p q => q.1 = nk p.1 ∧ q.2.1 = p.2.1 ∧ RelV p.2.2 q.2.2
def dphi (P : Program) (w : World) (d : Addr) (xs : NE) : Heap → Prop := fun h => xs.length ≤ sizeLine ∧ (d == sysModules) = false ∧ ∃ ys, relNE xs ys ∧
  ∃ o es ep, h.get? d = some o ∧ o.ExactDict ∧ o.data = .dict es ep ∧ es.toList = ys.map (entryOfKey (nestedKind P w))
abbrev dN (P : Program) (w : World) (d : Addr) (xs : NE) : HO := .ext (dphi P w d xs)
/-- at d stands a dict of the entries xs -/
structure DN (P : Program) (w : World) (K : PySem.W.Frag) (H : Hp) (d : Addr) (xs : NE) : Prop where
  at_ : H d = some (dN P w d xs)
  ks : ∀ x ∈ xs, WA K H (.ref x.2.1) x.1
  nd : (xs.map (·.1)).Nodup
def valN (xs : NE) (k : Wish) : Option V := (xs.find? fun x => decide (x.1 = k)).map (·.2.2)
def putN (xs : NE) (k : Wish) (a : Addr) (v : V) : NE := if (xs.any fun x => decide (x.1 = k)) then xs.map (fun x => if x.1 = k then (x.1, x.2.1, v) else x) else xs ++ [(k, a, v)]
def dropN (xs : NE) (k : Wish) : NE := xs.filter fun x => decide (x.1 ≠ k)
theorem relNE.find {xs : NE} {ys : List (NestedKey × Addr × Value)} (r : relNE xs ys) (k : Wish) : RelO (valN xs k) ((atKey ys (nk k)).map (·.2)) := by
  induction r with
  | nil => exact True.intro
  | @cons p q ps qs h t ih =>
    unfold valN atKey at ih ⊢
    rw [List.find?_cons, List.find?_cons, h.1, nk_dec]
    by_cases e : p.1 = k
    · simp only [e, decide_true, Option.map_some]
      exact h.2.2
    · simp only [e, decide_false]
      exact ih
theorem valN_any (xs : NE) (k : Wish) : (xs.any fun x => decide (x.1 = k)) = (valN xs k).isSome := by
  unfold valN
  rw [Option.isSome_map, List.isSome_find?]
theorem relNE.put {xs : NE} {ys : List (NestedKey × Addr × Value)} (r : relNE xs ys) (k : Wish) (a : Addr) {v : V} {u : Value} (rv : RelV v u) : relNE (putN xs k a v) (storedH ys (nk k) a u) := by
  have hs := (r.find k).isSome_eq
  rw [Option.isSome_map] at hs
  unfold putN storedH
  rw [valN_any, hs]
  split
  · clear hs
    rename_i hh
    clear hh
    induction r with
    | nil => exact .nil
    | @cons p q ps qs h t ih =>
      rw [List.map_cons, List.map_cons]
      refine .cons ?_ ih
      unfold putAt
      by_cases e : p.1 = k
      · rw [if_pos e, if_pos (by rw [h.1, e])]
        exact ⟨h.1, h.2.1, rv⟩
      · rw [if_neg e, if_neg (by rw [h.1]; exact fun z => e (nk_inj z))]
        exact h
  · clear hs
    rename_i hh
    clear hh
    induction r with
    | nil => exact .cons ⟨rfl, rfl, rv⟩ .nil
    | @cons p q ps qs h t ih => exact .cons h ih
theorem relNE.drop {xs : NE} {ys : List (NestedKey × Addr × Value)} (r : relNE xs ys) (k : Wish) : relNE (dropN xs k) (withoutH ys (nk k)) := by
  unfold dropN withoutH
  induction r with
  | nil => exact .nil
  | @cons p q ps qs h t ih =>
    rw [List.filter_cons, List.filter_cons]
    by_cases e : p.1 = k
    · rw [if_neg (by simp [e]), if_neg (by simp [h.1, e])]
      exact ih
    · rw [if_pos (by simp [e]), if_pos (by rw [h.1]; simpa using fun z => e (nk_inj z))]
      exact .cons h ih
theorem relNE.length {xs : NE} {ys : List (NestedKey × Addr × Value)} (r : relNE xs ys) : xs.length = ys.length := Paired.length r
theorem relNE.keys {xs : NE} {ys : List (NestedKey × Addr × Value)} (r : relNE xs ys) : ys.map (·.1) = (xs.map (·.1)).map nk := by
  induction r with
  | nil => rfl
  | @cons p q ps qs h t ih => rw [List.map_cons, List.map_cons, List.map_cons, ih, h.1]
theorem relNE.addrs {xs : NE} {ys : List (NestedKey × Addr × Value)} (r : relNE xs ys) : ys.map (·.2.1) = xs.map (·.2.1) := by
  induction r with
  | nil => rfl
  | @cons p q ps qs h t ih => rw [List.map_cons, List.map_cons, ih, h.2.1]
theorem nodup_map {α β : Type} {f : α → β} (hf : ∀ {a b}, f a = f b → a = b) {l : List α} (h : l.Nodup) : (l.map f).Nodup := by
  induction l with
  | nil => exact List.nodup_nil
  | cons a r ih =>
    obtain ⟨h1, h2⟩ := List.nodup_cons.mp h
    rw [List.map_cons]
    refine List.nodup_cons.mpr ⟨fun m => ?_, ih h2⟩
    obtain ⟨b, hb, e⟩ := List.mem_map.mp m
    rw [hf e] at hb
    exact h1 hb
theorem putN_len (xs : NE) (k : Wish) (a : Addr) (v : V) : (putN xs k a v).length ≤ xs.length + 1 := by
  unfold putN
  split
  · rw [List.length_map]; omega
  · simp
theorem putN_keys (xs : NE) (k : Wish) (a : Addr) (v : V) : (putN xs k a v).map (·.1) = if k ∈ xs.map (·.1) then xs.map (·.1) else xs.map (·.1) ++ [k] := by
  unfold putN
  have e : (xs.any fun x => decide (x.1 = k)) = decide (k ∈ xs.map (·.1)) := by
    induction xs with
    | nil => simp
    | cons x r ih =>
      rw [List.any_cons, ih, List.map_cons]
      by_cases h1 : x.1 = k
      · simp [h1]
      · have h2 : ¬ k = x.1 := fun z => h1 z.symm
        simp [h1, h2]
  rw [e]
  by_cases h : k ∈ xs.map (·.1)
  · rw [decide_eq_true h, if_pos rfl, if_pos h, List.map_map]
    refine List.map_congr_left fun x _ => ?_
    by_cases e : x.1 = k <;> simp [e]
  · rw [decide_eq_false h, if_neg Bool.false_ne_true, if_neg h, List.map_append] <;> rfl
theorem putN_nd {xs : NE} (h : (xs.map (·.1)).Nodup) (k : Wish) (a : Addr) (v : V) : ((putN xs k a v).map (·.1)).Nodup := by
  rw [putN_keys]
  split
  · exact h
  · rename_i hk
    exact nd_snoc h hk
theorem dropN_keys (xs : NE) (k : Wish) : (dropN xs k).map (·.1) = (xs.map (·.1)).filter fun w => decide (w ≠ k) := by
  unfold dropN
  rw [List.filter_map] <;> rfl
theorem dropN_nd {xs : NE} (h : (xs.map (·.1)).Nodup) (k : Wish) : ((dropN xs k).map (·.1)).Nodup := by
  rw [dropN_keys]
  exact h.filter _
theorem putN_mem {xs : NE} {k : Wish} {a : Addr} {v : V} {x : Wish × Addr × V} (h : x ∈ putN xs k a v) : (∃ y ∈ xs, x.1 = y.1 ∧ x.2.1 = y.2.1) ∨ (x.1 = k ∧ x.2.1 = a) := by
  unfold putN at h
  split at h
  · obtain ⟨y, hy, e⟩ := List.mem_map.mp h
    refine .inl ⟨y, hy, ?_⟩
    subst e
    split <;> exact ⟨rfl, rfl⟩
  · rcases List.mem_append.mp h with h | h
    · exact .inl ⟨x, h, rfl, rfl⟩
    · have e := List.mem_singleton.mp h
      subst e
      exact .inr ⟨rfl, rfl⟩
section
variable {X : Cx} {pins : List (Addr × Obj)} {σ : L2.St} {H : Hp} {s : Shared} {d : Addr} {xs : NE} {A : Around} {E : Value → Shared → Prop}
theorem dn_of (I : Inv X pins σ H s) (D : DN X.prog X.w X.K H d xs) : xs.length ≤ sizeLine ∧ (d == sysModules) = false ∧ ∃ ys, relNE xs ys ∧ s.heap.DictOfH (nestedKind X.prog X.w) d ys := by
  obtain ⟨⟨z, hd, ys, r, o, es, ep, h1, h2, h3, h4⟩, _, _⟩ := (show ObjOk X.prog X.w H s.heap d (dN X.prog X.w d xs) from I.hok d _ D.at_)
  refine ⟨z, hd, ys, r, o, es, ep, h1, h2, h3, h4, fun y hy => ?_, ?_⟩
  · have all : ∀ {l : NE} {m : List (NestedKey × Addr × Value)}, relNE l m → (∀ x ∈ l, WA X.K H (.ref x.2.1) x.1) → ∀ y ∈ m, (nestedKind X.prog X.w).is s.heap y.1 y.2.1 := by
      intro l m q
      induction q with
      | nil => intro _ y hy; cases hy
      | @cons p q ps qs hq t ih =>
        intro hk y hy
        rcases List.mem_cons.mp hy with e | hy
        · subst e
          have h := nest_w I (hk p (List.mem_cons_self ..)) (u := Value.ref p.2.1) rfl
          exact ⟨by rw [hq.1, hq.2.1]; exact h, by rw [hq.1]; exact nk_depth _⟩
        · exact ih (fun x hx => hk x (List.mem_cons_of_mem _ hx)) y hy
    exact all r D.ks y hy
  · rw [r.keys]
    exact nodup_map nk_inj D.nd
theorem key_is (I : Inv X pins σ H s) {a : Addr} {k : Wish} (h : WA X.K H (.ref a) k) : (nestedKind X.prog X.w).is s.heap (nk k) a := ⟨nest_w I h rfl, nk_depth k⟩
/-- the object at d is now another such dict -/
theorem dn_new {h' : Heap} {t' : Nat} {xs' : NE} {ys' : List (NestedKey × Addr × Value)} (I : Inv X pins σ H s) (mu : Mut (H d)) (hd : (d == sysModules) = false) (hz : xs'.length ≤ sizeLine) (r : relNE xs' ys') (dd : h'.DictOfH (nestedKind X.prog X.w) d ys') (hs : Heap.SameBut d s.heap h') :
    Inv X pins σ (upd H d (dN X.prog X.w d xs')) { s with heap := h', toks := t' } := by
  obtain ⟨o, es, ep, h1, h2, h3, h4, _, _⟩ := dd
  refine I.write (x := d) (e := d) mu (.inl rfl) (fun b q hb z => (hs.2 b hb).trans z) ⟨o, h1⟩ ⟨⟨hz, hd, ys', r, o, es, ep, h1, h2, h3, h4⟩, ⟨o, h1⟩, ?_⟩
  rintro g1 g2 ⟨z, hd', ys, r', o', es', ep', q1, q⟩ st
  exact ⟨z, hd', ys, r', o', es', ep', st _ q1, q⟩
theorem n_hu (hu : A.units + 9 < cLine) : (nestedKind X.prog X.w).room A.in1 := by
  show A.units + 1 + 8 < cLine
  omega
theorem n_in {a : Addr} {k : Wish} {Q : Value → Shared → Prop} (hu : A.units + 9 < cLine) (I : Inv X pins σ H s) (D : DN X.prog X.w X.K H d xs) (hk : WA X.K H (.ref a) k) (h : ∀ s', Inv X pins σ H s' → Q (.bool (valN xs k).isSome) s') :
    wpAny (model X.prog X.w) A (compareOp .In (.ref a) (.ref d)) Q E s := by
  obtain ⟨z, hd, ys, r, dd⟩ := dn_of I D
  refine wpAny_in_heap (n_hu (X := X) hu) (key_is I hk) hd dd ?_
  have q := (r.find k).isSome_eq
  rw [Option.isSome_map] at q
  rw [← q]
  exact h _ (I.tok _)
theorem n_notIn {a : Addr} {k : Wish} {Q : Value → Shared → Prop} (hu : A.units + 9 < cLine) (I : Inv X pins σ H s) (D : DN X.prog X.w X.K H d xs) (hk : WA X.K H (.ref a) k) (h : ∀ s', Inv X pins σ H s' → Q (.bool (!(valN xs k).isSome)) s') :
    wpAny (model X.prog X.w) A (compareOp .NotIn (.ref a) (.ref d)) Q E s := by
  obtain ⟨z, hd, ys, r, dd⟩ := dn_of I D
  refine wpAny_notIn_heap (n_hu (X := X) hu) (key_is I hk) hd dd ?_
  have q := (r.find k).isSome_eq
  rw [Option.isSome_map] at q
  rw [← q]
  exact h _ (I.tok _)
theorem n_getItem {a : Addr} {k : Wish} {v : V} {Q : Value → Shared → Prop} (hu : A.units + 9 < cLine) (I : Inv X pins σ H s) (D : DN X.prog X.w X.K H d xs) (hk : WA X.K H (.ref a) k) (hv : valN xs k = some v) (h : ∀ w' s', Inv X pins σ H s' → RelV v w' → Q w' s') :
    wpAny (model X.prog X.w) A (getItem (.ref d) (.ref a)) Q E s := by
  obtain ⟨z, hd, ys, r, dd⟩ := dn_of I D
  obtain ⟨w', hw, rw'⟩ := RelO.some_of (v := v) (o := (atKey ys (nk k)).map (·.2)) (by rw [← hv]; exact r.find k)
  obtain ⟨p, hp, hp2⟩ := Option.map_eq_some_iff.mp hw
  refine wpAny_getItem_heap (n_hu (X := X) hu) (key_is I hk) dd hp ?_
  rw [hp2]
  exact h w' _ (I.tok _) rw'
theorem n_get2 {a : Addr} {k : Wish} {x : V} {u : Value} {Q : Value → Shared → Prop} (hu : A.units + 9 < cLine) (I : Inv X pins σ H s) (D : DN X.prog X.w X.K H d xs) (hk : WA X.K H (.ref a) k) (rx : RelV x u) (h : ∀ w' s', Inv X pins σ H s' → RelV ((valN xs k).getD x) w' → Q w' s') :
    wpAny (model X.prog X.w) A (call (.builtin "dict.get") [.ref d, .ref a, u]) Q E s := by
  obtain ⟨z, hd, ys, r, dd⟩ := dn_of I D
  exact call_meetsIn PySem.F.slot_dict_get dd.typeIs PySem.F.entry_dict_get (PySem.F.args_dict_get_3 _ _ _) (meetsH_dict_get_default (nestedKind X.prog X.w) d a hd u) ⟨n_hu (X := X) hu, nk k, ys, key_is I hk, dd, h _ _ (I.tok _) ((r.find k).getD rx)⟩
theorem n_setItem {a : Addr} {k : Wish} {v : V} {u : Value} {Q : Unit → Shared → Prop} (hu : A.units + 9 < cLine) (I : Inv X pins σ H s) (D : DN X.prog X.w X.K H d xs) (hk : WA X.K H (.ref a) k) (rv : RelV v u) (hl : xs.length < sizeLine)
    (h : ∀ s', Inv X pins σ (upd H d (dN X.prog X.w d (putN xs k a v))) s' → Q () s') : wpAny (model X.prog X.w) A (setItem (.ref d) (.ref a) u) Q E s := by
  obtain ⟨z, hd, ys, r, dd⟩ := dn_of I D
  refine wpAny_setItem_heap (hsz := by rw [← r.length]; exact z) (n_hu (X := X) hu) (key_is I hk) dd fun h' dd' hs => h _ ?_
  exact dn_new I (by rw [D.at_]; exact True.intro) hd (by have := putN_len xs k a v; omega) (r.put k a rv) dd' hs
theorem n_pop {a : Addr} {k : Wish} {v : V} {Q : Value → Shared → Prop} (hu : A.units + 9 < cLine) (I : Inv X pins σ H s) (D : DN X.prog X.w X.K H d xs) (hk : WA X.K H (.ref a) k) (hv : valN xs k = some v)
    (h : ∀ w' s', Inv X pins σ (upd H d (dN X.prog X.w d (dropN xs k))) s' → RelV v w' → Q w' s') : wpAny (model X.prog X.w) A (call (.builtin "dict.pop") [.ref d, .ref a]) Q E s := by
  obtain ⟨z, hd, ys, r, dd⟩ := dn_of I D
  obtain ⟨w', hw, rw'⟩ := RelO.some_of (v := v) (o := (atKey ys (nk k)).map (·.2)) (by rw [← hv]; exact r.find k)
  obtain ⟨p, hp, hp2⟩ := Option.map_eq_some_iff.mp hw
  refine call_pop_heap (hsz := by rw [← r.length]; exact z) (.inl rfl) (PySem.F.args_dict_pop_2 _ _) (n_hu (X := X) hu) (key_is I hk) hd dd hp fun h' dd' hs => ?_
  rw [hp2]
  exact h w' _ (dn_new I (by rw [D.at_]; exact True.intro) hd (by have := List.length_filter_le (fun x : Wish × Addr × V => decide (x.1 ≠ k)) xs; unfold dropN; omega) (r.drop k) dd' hs) rw'
theorem dn_ty (I : Inv X pins σ H s) (D : DN X.prog X.w X.K H d xs) : s.TypeIs (.ref d) "dict" := by
  obtain ⟨z, hd, ys, r, dd⟩ := dn_of I D
  exact dd.typeIs
theorem dn_nodict (I : Inv X pins σ H s) (D : DN X.prog X.w X.K H d xs) : ∀ b, Value.ref d = .ref b → ∃ ob, s.heap.get? b = some ob ∧ ob.dict = none := fun b q => by
  cases q
  obtain ⟨z, hd, ys, r, ob, _, _, h1, h2, _⟩ := dn_of I D
  exact ⟨ob, h1, h2.2.1⟩
end
/-! ### readings and rules -/
section
variable {X : Cx} {o i e f value : Expr} {pos pos' apos cpos : Pos} {td ty tv tx : TE}
def tNewN (P : Program) (w : World) : TE := fun _ H Q => ∀ p, H p = none → Q (.ref p) (upd H p (dN P w p []))
theorem pe_dnewN : PE X (.Dict [] [] pos) (tNewN X.prog X.w) := ⟨fun pins s σ H Q I h => by
  refine wpAny_Dict_empty ⟨.ref s.heap.objs.size, _, I.laid (a := s.heap.objs.size) (o := dN X.prog X.w s.heap.objs.size []) (t' := s.toks) (fun _ _ q => Heap.get?_push_of_some _ q) (Nat.le_refl _) ?_, rfl, h _ (I.hok.fresh (Nat.le_refl _))⟩
  refine ⟨⟨Nat.zero_le _, beq_eq_false_iff_ne.mpr (Ne.symm (Nat.ne_of_lt I.big)), [], .nil, _, #[], 0, Heap.get?_push_size _ rfl, ⟨rfl, rfl, rfl⟩, rfl, rfl⟩, ⟨_, Heap.get?_push_size _ rfl⟩, ?_⟩
  rintro g1 g2 ⟨z, hd', ys, r', o', es', ep', q1, q⟩ st
  exact ⟨z, hd', ys, r', o', es', ep', st _ q1, q⟩⟩
/-- k in d; k not in d -/
def tNIn (P : Program) (w : World) (K : PySem.W.Frag) (ty td : TE) : TE := fun σ H Q => ty σ H fun y H1 => td σ H1 fun x H2 => ∃ a d k xs, y = .ref a ∧ x = .ref d ∧ DN P w K H2 d xs ∧ WA K H2 (.ref a) k ∧ Q (.bl (valN xs k).isSome) H2
def tNNotIn (P : Program) (w : World) (K : PySem.W.Frag) (ty td : TE) : TE := fun σ H Q => ty σ H fun y H1 => td σ H1 fun x H2 => ∃ a d k xs, y = .ref a ∧ x = .ref d ∧ DN P w K H2 d xs ∧ WA K H2 (.ref a) k ∧ Q (.bl (!(valN xs k).isSome)) H2
theorem pc_nin (hu : X.A.units + 9 < cLine) (hi : PE X i ty) (ho : PE X o td) : PC X .In i o (tNIn X.prog X.w X.K ty td) := by
  refine ⟨fun pins s σ H Q I h => ?_⟩
  refine thn (hi.run pins s σ H _ I h) fun iv s1 ⟨y, H1, I1, ry, q1⟩ => thn (ho.run pins s1 σ H1 _ I1 q1) fun u s2 ⟨x, H2, I2, rx, a, d, k, xs, ey, ex, D, hk, q2⟩ => ?_
  subst ex ey
  obtain rfl : u = Value.ref d := rx
  obtain rfl : iv = Value.ref a := ry
  exact n_in hu I2 D hk fun s3 I3 => ⟨.bl _, H2, I3, rfl, q2⟩
theorem pc_nnotin (hu : X.A.units + 9 < cLine) (hi : PE X i ty) (ho : PE X o td) : PC X .NotIn i o (tNNotIn X.prog X.w X.K ty td) := by
  refine ⟨fun pins s σ H Q I h => ?_⟩
  refine thn (hi.run pins s σ H _ I h) fun iv s1 ⟨y, H1, I1, ry, q1⟩ => thn (ho.run pins s1 σ H1 _ I1 q1) fun u s2 ⟨x, H2, I2, rx, a, d, k, xs, ey, ex, D, hk, q2⟩ => ?_
  subst ex ey
  obtain rfl : u = Value.ref d := rx
  obtain rfl : iv = Value.ref a := ry
  exact n_notIn hu I2 D hk fun s3 I3 => ⟨.bl _, H2, I3, rfl, q2⟩
/-- d[k] -/
def tNGet (P : Program) (w : World) (K : PySem.W.Frag) (td ty : TE) : TE := fun σ H Q => td σ H fun x H1 => ty σ H1 fun y H2 => ∃ a d k xs v, y = .ref a ∧ x = .ref d ∧ DN P w K H2 d xs ∧ WA K H2 (.ref a) k ∧ valN xs k = some v ∧ Q v H2
theorem pe_nget (hu : X.A.units + 9 < cLine) (ho : PE X o td) (hi : PE X i ty) (hs : NoSl i) : PE X (.Subscript o i pos) (tNGet X.prog X.w X.K td ty) := by
  refine ⟨fun pins s σ H Q I h => ?_⟩
  refine subD_of PySem.F.slot_dict_getitem.lookup hs (thn (ho.run pins s σ H _ I h) fun u s1 ⟨x, H1, I1, rx, q1⟩ => thn (hi.run pins s1 σ H1 _ I1 q1) fun iv s2 ⟨y, H2, I2, ry, a, d, k, xs, v, ey, ex, D, hk, hv, q2⟩ => ?_)
  subst ex ey
  obtain rfl : u = Value.ref d := rx
  obtain rfl : iv = Value.ref a := ry
  exact ⟨dn_ty I2 D, n_getItem hu I2 D hk hv fun w' s3 I3 rw' => ⟨v, H2, I3, rw', q2⟩⟩
/-- d[k] = v -/
def sNPut (P : Program) (w : World) (K : PySem.W.Frag) (td ty tv : TE) : TS := fun D σ H => tv σ H fun v H1 => td σ H1 fun x H2 => ty σ H2 fun y H3 => ∃ a d k xs, y = .ref a ∧ x = .ref d ∧ DN P w K H3 d xs ∧ WA K H3 (.ref a) k ∧ xs.length < sizeLine ∧ D.nx σ (upd H3 d (dN P w d (putN xs k a v)))
theorem ps_nput (hu : X.A.units + 9 < cLine) (ho : PE X o td) (hi : PE X i ty) (hv : PE X value tv) (hs : swapsWith value (some (.Subscript o i pos')) pos.line X.env = pure false) :
    PS X (.Assign [.Subscript o i pos'] value pos) (sNPut X.prog X.w X.K td ty tv) := by
  refine ⟨fun pins s σ H D I h => ?_⟩
  refine wpAny_Assign_Subscript (thn (hv.run pins s σ H _ I h) fun r s1 ⟨v, H1, I1, rv, q1⟩ => thn (ho.run pins s1 σ H1 _ I1 q1) fun u s2 ⟨x, H2, I2, rx, q2⟩ => thn (hi.run pins s2 σ H2 _ I2 q2) fun iv s3 ⟨y, H3, I3, ry, a, d, k, xs, ey, ex, DD, hk, hl, q3⟩ => ?_) hs
  subst ex ey
  obtain rfl : u = Value.ref d := rx
  obtain rfl : iv = Value.ref a := ry
  exact n_setItem hu I3 DD hk rv hl fun s4 I4 => ⟨σ, _, I4, q3⟩
/-- d.get(k, x) -/
def tNGet2 (P : Program) (w : World) (K : PySem.W.Frag) (td ty tx : TE) : TE := fun σ H Q => td σ H fun x H1 => ∃ d, x = .ref d ∧ (∃ xs, DN P w K H1 d xs) ∧ ty σ H1 fun y H2 => tx σ H2 fun z H3 => ∃ a k xs, y = .ref a ∧ DN P w K H3 d xs ∧ WA K H3 (.ref a) k ∧ Q ((valN xs k).getD z) H3
theorem pe_nget2 (hu : X.A.units + 9 < cLine) (ho : PE X o td) (he : PE X e ty) (hf : PE X f tx) (m : M2 X o "get" apos e f cpos) : PE X (.Call (.Attribute o "get" apos) [e, f] [] cpos) (tNGet2 X.prog X.w X.K td ty tx) := by
  refine ⟨fun pins s σ H Q I h => ?_⟩
  refine wpAny_Call_method m.base m.few m.line PySem.F.plainAttrs_dict PySem.F.slot_dict_get PySem.F.type_dict_get (thn (ho.run pins s σ H _ I h) fun u s1 ⟨x, H1, I1, rx, d, ex, ⟨xs0, D0⟩, q1⟩ => ?_)
  subst ex
  obtain rfl : u = Value.ref d := rx
  refine ⟨dn_ty I1 D0, dn_nodict I1 D0, ?_⟩
  rw [m.trees]
  refine Calls.callWith_builtin rfl (Calls.evalArgs_plain (Calls.spliced_cons (thn (he.run pins s1 σ H1 _ I1 q1) fun iv s2 ⟨y, H2, I2, ry, q2⟩ =>
    Calls.spliced_cons (thn (hf.run pins s2 σ H2 _ I2 q2) fun fv s3 ⟨z, H3, I3, rz, a, k, xs, ey, D, hk, q3⟩ => Calls.spliced_nil ?_))))
  subst ey
  obtain rfl : iv = Value.ref a := ry
  exact n_get2 hu I3 D hk rz fun w' s4 I4 rw' => ⟨_, H3, I4, rw', q3⟩
/-- d.pop(k), there -/
def tNPop (P : Program) (w : World) (K : PySem.W.Frag) (td ty : TE) : TE := fun σ H Q => td σ H fun x H1 => ∃ d, x = .ref d ∧ (∃ xs, DN P w K H1 d xs) ∧ ty σ H1 fun y H2 => ∃ a k xs v, y = .ref a ∧ DN P w K H2 d xs ∧ WA K H2 (.ref a) k ∧ valN xs k = some v ∧ Q v (upd H2 d (dN P w d (dropN xs k)))
theorem pe_npop (hu : X.A.units + 9 < cLine) (ho : PE X o td) (he : PE X e ty) (m : M1 X o "pop" apos e cpos) : PE X (.Call (.Attribute o "pop" apos) [e] [] cpos) (tNPop X.prog X.w X.K td ty) := by
  refine ⟨fun pins s σ H Q I h => ?_⟩
  refine wpAny_Call_method m.base m.few m.line PySem.F.plainAttrs_dict PySem.F.slot_dict_pop PySem.F.type_dict_pop (thn (ho.run pins s σ H _ I h) fun u s1 ⟨x, H1, I1, rx, d, ex, ⟨xs0, D0⟩, q1⟩ => ?_)
  subst ex
  obtain rfl : u = Value.ref d := rx
  refine ⟨dn_ty I1 D0, dn_nodict I1 D0, ?_⟩
  rw [m.trees]
  refine Calls.callWith_builtin rfl (Calls.evalArgs_plain (Calls.spliced_cons (thn (he.run pins s1 σ H1 _ I1 q1) fun iv s2 ⟨y, H2, I2, ry, a, k, xs, v, ey, D, hk, hv, q2⟩ => Calls.spliced_nil ?_)))
  subst ey
  obtain rfl : iv = Value.ref a := ry
  exact n_pop hu I2 D hk hv fun w' s3 I3 rw' => ⟨v, _, I3, rw', q2⟩
/-- list(d) -/
def rListN (P : Program) (w : World) (K : PySem.W.Frag) : List V → Hp → VK → Prop := fun vs H Q => ∃ d xs, vs = [V.ref d] ∧ DN P w K H d xs ∧ ∀ p, H p = none → Q (.ref p) (upd H p (.lst (xs.map fun x => V.ref x.2.1)))
theorem call_listN (hc : X.calm = true) : CallR X (.type "list") (rListN X.prog X.w X.K) := by
  intro pins s σ H vs us Q I r h
  obtain ⟨d, xs, rfl, D, q⟩ := h
  obtain ⟨u, rfl, rx⟩ := r.one
  cases rx
  obtain ⟨z, hs, ks, pr, o, es, ep, ho, hx, hdt, he, _, _⟩ := dn_of I D
  have l1 : es.size = ks.length := size_of_entries he
  have l2 : xs.length = ks.length := pr.length
  refine PySem.W.kdl_call (kdl_raw hs hx hdt) (I.ok.hd hc) ho (by omega) fun h' tk acc' c' kp e it => ?_
  have ea : acc'.toList = ks.map fun x => Value.ref x.2.1 := by
    have hl : acc'.toList.length = ks.length := by rw [Array.length_toList, it.1]; exact l1
    apply List.ext_getElem?
    intro j
    rw [List.getElem?_map]
    cases hj : acc'.toList[j]? with
    | none =>
      have h1 := List.getElem?_eq_none_iff.mp hj
      rw [List.getElem?_eq_none (by omega)]
      all_goals rfl
    | some v =>
      obtain ⟨en, hen, hv⟩ := it.2 j v (by rw [← Array.getElem?_toList]; exact hj)
      have qe := entry_at he j
      rw [hen] at qe
      cases hb : ks[j]? with
      | none =>
        rw [hb] at qe
        exact nomatch (show some en = none from qe)
      | some x =>
        rw [hb] at qe
        have e1 : en = entryOfKey (nestedKind X.prog X.w) x := Option.some.inj qe
        rw [hv, e1] <;> rfl
  have ek : (ks.map fun x => Value.ref x.2.1) = (xs.map fun x => x.2.1).map Value.ref := by
    rw [← pr.addrs, List.map_map] <;> rfl
  have ev : (xs.map fun x => V.ref x.2.1) = (xs.map fun x => x.2.1).map V.ref := by
    rw [List.map_map] <;> rfl
  refine ⟨.ref s.heap.objs.size, upd H s.heap.objs.size (.lst (xs.map fun x => V.ref x.2.1)), I.laid (t' := tk) kp (Nat.le_refl _) (show ObjOk X.prog X.w _ _ _ (.lst (xs.map fun x => V.ref x.2.1)) from ⟨by rw [List.length_map]; exact z, acc'.toList, c', ?_, ?_⟩), rfl, q _ (I.hok.fresh (Nat.le_refl _))⟩
  · rw [ea, ek, ev]
    exact vals_refs _
  · rw [Array.toArray_toList]; exact e
/-- len(d) -/
def rLenN (P : Program) (w : World) (K : PySem.W.Frag) : List V → Hp → VK → Prop := fun vs H Q => ∃ d xs, vs = [V.ref d] ∧ DN P w K H d xs ∧ Q (.int ((xs.length : Nat) : Int)) H
theorem call_lenN : CallR X (.builtin "len") (rLenN X.prog X.w X.K) := by
  intro pins s σ H vs us Q I r h
  obtain ⟨d, xs, rfl, D, q⟩ := h
  obtain ⟨u, rfl, rx⟩ := vals1 r
  obtain rfl : u = .ref d := rx
  obtain ⟨z, hd, ys, rel, dd⟩ := dn_of I D
  have hl : xs.length = ys.length := rel.length
  refine call_len_dictH hd dd (by rw [← hl]; rw [sizeLine_eq] at z; omega) ?_
  rw [← hl]
  exact ⟨.int ((xs.length : Nat) : Int), H, I.tok _, ⟨_, rfl⟩, q⟩
end
end K33
/-! K3: sorted(xs, key = a def of the text); o.m(k = v). -/
namespace K33
open PySem PySem.Spec PyProof.Rows L2 Evl
section
variable {X : Cx} {pins : List (Addr × Obj)} {σ : L2.St} {H : Hp} {s : Shared}
/-- an untracked object of our own is changed, and tracked from now on -/
theorem adopt {a : Addr} {o : HO} {h' : Heap} {t' : Nat} (I : Inv X pins σ H s) (f : FpOk X pins H a) (hs : Heap.SameBut a s.heap h') (ho : ∃ q, h'.get? a = some q) (new : ObjOk X.prog X.w (upd H a o) h' a o) :
    Inv X pins σ (upd H a o) { s with heap := h', toks := t' } := by
  obtain ⟨f0, f1, f2, f3, f4, f5⟩ := f
  have nit : ∀ b u, H b = some u → b ≠ a := fun b u e z => by rw [z, f0] at e; cases e
  refine I.step (g' := s.gens) (d' := s.drawn) (ch := [a]) (fun b hb => ?_) (fun b q _ _ hc e _ => (hs.2 b (fun z => hc (by simp [z]))).trans e) (fun b q _ _ hc e _ => ⟨q.slots, (hs.2 b (fun z => hc (by simp [z]))).trans e⟩)
    (fun b q hc _ n => by rw [upd_ne (fun z => hc (by simp [z]))]; exact n) (fun b q hc e => ⟨q, (hs.2 b (fun z => hc (by simp [z]))).trans e⟩) (fun b xs e => by rw [upd_ne (nit b _ e)]; exact e) (fun b q u e => by rw [upd_ne (nit b _ e)]; exact e)
    (fun b ps e => ⟨#[], by rw [upd_ne (nit b _ e), e]; simp⟩) (fun m hm => ?_) (fun b u e => ?_) I.bare
  · have e : b = a := by simpa using hb
    subst e
    exact ⟨f3, f1, f4, f5⟩
  · exact hm.sameBut hs (Ne.symm f1)
  · by_cases hb : b = a
    · subst hb; rw [upd_same] at e; cases e; exact new
    · rw [upd_ne hb] at e
      refine (I.hok b u e).stay (fun c v hc q => (hs.2 c ?_).trans q) (fun c q => by rw [upd_ne (nit c _ q)]; exact q) fun c xs q => by rw [upd_ne (nit c _ q)]; exact q
      rcases hc with z | z
      · rw [z]; exact hb
      · exact nit c _ z
theorem fp_stk (I : Inv X pins σ H s) {b : Addr} (f : FpOk X pins H b) : b ∉ frs X.stack := fun z => by
  rcases List.mem_cons.mp (I.stkSub b z) with e | hb
  · exact f.2.1 e
  · exact f.2.2.1 hb
theorem fp_at {H' : Hp} {b : Addr} (f : FpOk X pins H b) (h : H' b = none) : FpOk X pins H' b := ⟨h, f.2⟩
end
def rSortedKey (K : PySem.W.Frag) (f : Addr) (spf : Sp) : List V → List V → Hp → VK → Prop := fun vs zs H Q => ∃ (a : Addr) (xs : List V) (ks : List PyData), vs = [V.ref a] ∧ zs = [V.ref f] ∧ SqL K H a xs ∧ ks.length = xs.length ∧
  (∀ d ∈ ks, d.depth ≤ 8 ∧ ∃ l, d = .list l) ∧ (∀ d ∈ ks, ∀ e ∈ ks, PySem.W.alike d e = true) ∧
  (∀ (i : Nat) x d, xs[i]? = some x → ks[i]? = some d → ∀ H1, Ex H H1 → ∀ QQ : VK, (∀ v H2, Ex H1 H2 → Dp K H2 v d → QQ v H2) → spf [x] H1 QQ E0) ∧
  ∀ (ys : List V) (p : Addr) (H' : Hp), ys.Perm xs → Ex H H' → H p = none → H' p = none → Q (.ref p) (upd H' p (.lst ys))
/-- what stands within the sort: a the list (emptied), kS the keys so far -/
structure Mid (X : Cx) (pins : List (Addr × Obj)) (σ : L2.St) (H0 : Hp) (a kS : Addr) (e1 : Nat) (ks : List PyData) (i : Nat) (s : Shared) : Prop where
  ex : ∃ (H : Hp) (keys : List Value) (e : Nat) (kvs : List V), Inv X pins σ H s ∧ Ex H0 H ∧ s.heap.get? kS = some (seqObj "list" keys.toArray e) ∧ s.heap.get? a = some (seqObj "list" #[] e1) ∧
    FpOk X pins H a ∧ FpOk X pins H kS ∧ a ≠ kS ∧ Vals kvs keys ∧ DpAll X.K H kvs (ks.take i) ∧ keys.length = i
section
variable {X : Cx} {k : Nat} {f : Addr} {fd : FuncData} {q : Str} {spf : Sp}
theorem oneLt_dp {pins : List (Addr × Obj)} {σ : L2.St} {H : Hp} {s : Shared} {B : Around} {d e : PyData} {v u : V} {a b : Value} {l : List PyData} (I : Inv X pins σ H s) (hd : Dp X.K H v d) (he : Dp X.K H u e) (ra : RelV v a) (rb : RelV u b) (hl : d = .list l) (al : PySem.W.alike d e = true)
    (hu : B.units + 9 < cLine) (hz : d.depth ≤ 8) : ∃ c : Bool, wpAny (model X.prog X.w) B (keyLt' oneType' a b) (fun r s' => s' = s ∧ r = c) (fun _ _ => False) s := by
  obtain ⟨as, r1⟩ := Dp.reads I d v a hd ra
  obtain ⟨bs, r2⟩ := Dp.reads I e u b he rb
  refine ⟨PySem.W.dataLt d e, ?_⟩
  rw [keyLt'_oneType]
  exact PySem.W.oneLt_alike (fun _ xs z => by rw [hl] at z; cases z) r1 r2 al (fun z => by rw [hl] at z; cases z) (by omega) ⟨rfl, rfl⟩
theorem dp_get {K : PySem.W.Frag} {H : Hp} : ∀ {kvs : List V} {ks : List PyData} {keys : List Value}, DpAll K H kvs ks → Vals kvs keys → ∀ a ∈ keys, ∃ v d, d ∈ ks ∧ Dp K H v d ∧ RelV v a
  | _, _, _, .nil, .nil, a, ha => by cases ha
  | _, _, _, .cons h t, .cons r tr, a, ha => by
    rcases List.mem_cons.mp ha with e | ha
    · subst e
      exact ⟨_, _, List.mem_cons_self .., h, r⟩
    · obtain ⟨v, d, h1, h2, h3⟩ := dp_get t tr a ha
      exact ⟨v, d, List.mem_cons_of_mem _ h1, h2, h3⟩
theorem dp_list {pins : List (Addr × Obj)} {σ : L2.St} {H : Hp} {s : Shared} {v : V} {a : Value} {l : List PyData} (I : Inv X pins σ H s) (h : Dp X.K H v (.list l)) (r : RelV v a) : s.TypeIs a "list" := by
  obtain ⟨p, xs, rfl, h1, _⟩ := h.lst_inv
  obtain rfl : a = Value.ref p := r
  obtain ⟨its, _, ⟨o, n, ho, hc, _⟩, _⟩ := I.list h1
  exact ⟨o, ho, hc⟩
/-- the calls of the key -/
theorem key_calls {E : Value → Shared → Prop} {pins : List (Addr × Obj)} {σ : L2.St} {H0 : Hp} {s : Shared} {a kS : Addr} {e1 : Nat} {ks : List PyData} {xs : List V} {vs : List Value} {R : PySem.Fin → Shared → Prop} (F : FnOk X.prog X.w X.K X.mg X.base CX0 k f fd [q] spf) (hr : Room (k + 2) X.A) (hb : Binds X.K fd [q] [])
    (rv : Vals xs vs) (hl : ks.length = xs.length) (hz : xs.length ≤ sizeLine)
    (hcall : ∀ (i : Nat) x d, xs[i]? = some x → ks[i]? = some d → ∀ H1, Ex H0 H1 → ∀ QQ : VK, (∀ v H2, Ex H1 H2 → Dp X.K H2 v d → QQ v H2) → spf [x] H1 QQ E0)
    (M : Mid X pins σ H0 a kS e1 ks 0 s) (fin : ∀ s' keys e, Mid X pins σ H0 a kS e1 ks vs.length s' → s'.heap.get? kS = some (seqObj "list" keys e) → wpAny (model X.prog X.w) X.A.in1.in1 (ksk_end a false vs.toArray e1 (.ref kS) keys) R E s') :
    wpAny (model X.prog X.w) X.A.in1.in1 (ksk_rest a (.ref f) false vs.toArray e1 (.ref kS)) R E s := by
  have lv := rv.length
  unfold ksk_rest
  refine wpAny_bind (wpAny_rule ?_)
  first
    | rw [List.forIn_toArray]
    | (rw [← Array.forIn_toList]; simp only [List.toList_toArray])
    | rw [← Array.forIn_toList]
  refine wpAny_bind (ksk_fold (fun i s' => Mid X pins σ H0 a kS e1 ks i s') vs 0 s M ?step ?done)
  case step =>
    rintro j x s' hx ⟨H, keys, e, kvs, I, eH, hkS, ha, fa, fk, ne, rk, dk, lk⟩
    simp only [Nat.zero_add] at dk lk ⊢
    have hj : j < vs.length := (List.getElem?_eq_some_iff.mp hx).1
    obtain ⟨v, hv, rvx⟩ : ∃ v, xs[j]? = some v ∧ RelV v x := by
      have hjx : j < xs.length := by omega
      obtain ⟨u, hu, r⟩ := rv.get (List.getElem?_eq_getElem hjx)
      rw [hx] at hu
      cases hu
      exact ⟨_, List.getElem?_eq_getElem hjx, r⟩
    obtain ⟨d, hd⟩ : ∃ d, ks[j]? = some d := ⟨_, List.getElem?_eq_getElem (by omega)⟩
    have sp := hcall j v d hv hd H eH (fun v H2 => Ex H H2 ∧ Dp X.K H2 v d) (fun v H2 e2 q2 => ⟨e2, q2⟩)
    refine wpAny_bind (wpAny_attempt (wpAny_call (codeAny_mono (F.run X.A.in1.in1 X.stack s' H ⟨[x], []⟩ [x] [v] _ E0 hr.in1.in1 I.env0.in1.in1 (hb s' [x] I.kIn rfl) (.cons rvx .nil) sp) fun r s2 hq => ?_)))
    cases r with
    | error e => exact hq.elim
    | ok fl =>
      cases fl with
      | next => exact False.elim hq
      | brk => exact False.elim hq
      | cont => exact False.elim hq
      | ret u =>
        obtain ⟨v2, H2, os, bare, un, hok, r2, e2, q2⟩ := hq
        have I2 : Inv X pins σ H2 s2 := I.call' (ch := []) os un hok bare (fun b z => absurd z (by simp))
        have ha2 := un.keep a _ ha fa.1 (fp_stk I fa) (by simp)
        have hk2 := un.keep kS _ hkS fk.1 (fp_stk I fk) (by simp)
        have na2 := un.free a _ ha fa.1 (by simp)
        have nk2 := un.free kS _ hkS fk.1 (by simp)
        have fa2 := fp_at fa na2
        have fk2 := fp_at fk nk2
        try dsimp only
        refine wpAny_bind (listUpdate_at hk2 rfl ?_ (by rw [List.size_toArray]; omega) (by rw [Array.size_push, List.size_toArray]; omega))
        have s1 := Heap.SameBut.update s2.heap kS (Obj.mapSeq (·.push u))
        obtain ⟨c2, hc2⟩ : ∃ c2, (s2.heap.update kS (Obj.mapSeq (·.push u))).get? kS = some (seqObj "list" (keys.toArray.push u) c2) := ⟨_, get?_update_seq hk2 (·.push u)⟩
        have I3 : Inv X pins σ H2 { s2 with heap := s2.heap.update kS (Obj.mapSeq (·.push u)) } := I2.turned (t' := s2.toks) (fun b o hb e => (s1.2 b hb).trans e) nk2 fk2.2.1 fk2.2.2.2.1 fk2.2.2.2.2.1 fk2.2.2.2.2.2
        have ek : ks.take (j + 1) = ks.take j ++ [d] := by rw [List.take_add_one, hd]; simp
        refine wpAny_pure ⟨rfl, H2, keys ++ [u], c2, kvs ++ [v2], I3, eH.trans e2, by rw [hc2]; simp, (s1.2 a ne).trans ha2, fa2, fk2, ne, rk.append (.cons r2 .nil), by rw [ek]; exact (dk.ex e2).append (.cons q2 .nil), by simp [lk]⟩
  case done =>
    intro s' M'
    rw [Nat.zero_add] at M'
    obtain ⟨H, keys, e, kvs, I, eH, hkS, _⟩ := id M'.ex
    try dsimp only
    exact wpAny_bind (listItems_at hkS rfl (fin s' _ _ M' hkS))
end
section
variable {X : Cx} {k : Nat} {f : Addr} {fd : FuncData} {q : Str} {spf : Sp}
theorem zip_all {keys vs : List Value} {P : Value → Prop} (h : ∀ a ∈ keys, P a) : Srt.AllP (fun p : Keyed => P p.1) (keys.toArray.zip vs.toArray) := fun p hm => by
  rw [ksk_zip] at hm
  exact h p.1 (List.of_mem_zip (a := p.1) (b := p.2) hm).1
theorem snd_perm {keys vs : List Value} (hl : keys.length = vs.length) {ys : Array Keyed} (hp : ys.Perm (keys.toArray.zip vs.toArray)) : (ys.map (·.2)).toList.Perm vs := by
  have h1 : ys.toList.Perm (keys.zip vs) := by
    have := Array.perm_iff_toList_perm.mp hp
    rw [ksk_zip] at this
    exact this
  have h2 := h1.map (fun p : Keyed => p.2)
  have e : (keys.zip vs).map (fun p : Keyed => p.2) = vs := List.map_snd_zip (Nat.le_of_eq hl.symm)
  rw [e] at h2
  rw [Array.toList_map]
  exact h2
/-- the end of the sort -/
theorem key_end {E : Value → Shared → Prop} {pins : List (Addr × Obj)} {σ : L2.St} {H0 : Hp} {s : Shared} {a kS : Addr} {e1 : Nat} {ks : List PyData} {xs : List V} {vs : List Value} {keys : Array Value} {e : Nat} {R : PySem.Fin → Shared → Prop} (hu : X.A.units + 64 < cLine)
    (rv : Vals xs vs) (hl : ks.length = xs.length) (hz : xs.length ≤ sizeLine)
    (hls : ∀ d ∈ ks, d.depth ≤ 8 ∧ ∃ l, d = .list l) (hal : ∀ d ∈ ks, ∀ e ∈ ks, PySem.W.alike d e = true)
    (M : Mid X pins σ H0 a kS e1 ks vs.length s) (hkey : s.heap.get? kS = some (seqObj "list" keys e))
    (fin : ∀ s' H (out : List Value) c, Inv X pins σ H s' → Ex H0 H → FpOk X pins H a → out.Perm vs → s'.heap.get? a = some (seqObj "list" out.toArray c) → R (.done (.ret .none)) s') :
    wpAny (model X.prog X.w) X.A.in1.in1 (ksk_end a false vs.toArray e1 (.ref kS) keys) R E s := by
  obtain ⟨H, keys', e', kvs, I, eH, hkS, ha, fa, fk, ne, rk, dk, lk⟩ := M.ex
  rw [hkS] at hkey
  obtain ⟨rfl, rfl⟩ : keys = keys'.toArray ∧ e = e' := by
    have h := Option.some.inj hkey
    simp only [seqObj, Obj.mk.injEq, Data.seq.injEq] at h
    exact ⟨h.2.2.1.1.symm, h.2.2.1.2.symm⟩
  have lv := rv.length
  have dk : DpAll X.K H kvs ks := by
    have e3 : ks.take vs.length = ks := List.take_of_length_le (by omega)
    rw [e3] at dk
    exact dk
  have tail : ∀ st : SortSt, (arrOf st).Perm (keys'.toArray.zip vs.toArray) → failedOf st = none → wpAny (model X.prog X.w) X.A.in1.in1 (ksk_tail a false e1 (.ref kS) st) R E s := by
    intro st hp hf
    have s1 := Heap.SameBut.update s.heap kS (Obj.mapSeq fun _ => (#[] : Array Value))
    have na1 : (s.heap.update kS (Obj.mapSeq fun _ => (#[] : Array Value))).get? a = some (seqObj "list" #[] e1) := (s1.2 a ne).trans ha
    have s2 := Heap.SameBut.update (s.heap.update kS (Obj.mapSeq fun _ => (#[] : Array Value))) a (Obj.mapSeq fun _ => (arrOf st).map (·.2))
    obtain ⟨c2, hc2⟩ : ∃ c2, ((s.heap.update kS (Obj.mapSeq fun _ => (#[] : Array Value))).update a (Obj.mapSeq fun _ => (arrOf st).map (·.2))).get? a = some (seqObj "list" ((arrOf st).map (·.2)) c2) :=
      ⟨_, get?_update_seq na1 fun _ => (arrOf st).map (·.2)⟩
    have op := snd_perm lk hp
    have oz : ((arrOf st).map (·.2)).size = vs.length := by
      rw [← Array.length_toList]
      exact op.length_eq
    have I1 : Inv X pins σ H { s with heap := s.heap.update kS (Obj.mapSeq fun _ => (#[] : Array Value)) } := I.turned (t' := s.toks) (fun b o hb e => (s1.2 b hb).trans e) fk.1 fk.2.1 fk.2.2.2.1 fk.2.2.2.2.1 fk.2.2.2.2.2
    have I2 : Inv X pins σ H { s with heap := (s.heap.update kS (Obj.mapSeq fun _ => (#[] : Array Value))).update a (Obj.mapSeq fun _ => (arrOf st).map (·.2)) } := I1.turned (t' := s.toks) (fun b o hb e => (s2.2 b hb).trans e) fa.1 fa.2.1 fa.2.2.2.1 fa.2.2.2.2.1 fa.2.2.2.2.2
    unfold ksk_tail
    try dsimp only
    refine wpAny_bind (listUpdate_at hkS rfl ?_ (by rw [List.size_toArray, lk]; omega) (Nat.zero_le _))
    refine wpAny_bind (wpAny_letGo ?_)
    refine wpAny_bind (seqEpoch_at na1 rfl ?_)
    refine wpAny_bind (listUpdate_at na1 rfl ?_ (Nat.zero_le _) (by show ((arrOf st).map (·.2)).size ≤ sizeLine + 1; rw [oz]; omega))
    rw [hf]
    simp only [bne_self_eq_false, Bool.false_eq_true, if_false]
    exact wpAny_pure (fin _ H ((arrOf st).map (·.2)).toList c2 I2 eH fa op (by rw [Array.toArray_toList]; exact hc2))
  unfold ksk_end
  try dsimp only
  simp only [Bool.false_eq_true, if_false]
  by_cases h2 : vs.toArray.size < 2
  · rw [if_pos h2, if_pos h2]
    refine wpAny_bind (wpAny_pure ?_)
    rw [StateT.run_pure]
    refine wpAny_bind (wpAny_pure ?_)
    try dsimp only
    exact tail (SortSt.mk' general' (keys'.toArray.zip vs.toArray) #[] 7 none) (Array.Perm.refl _) rfl
  · rw [if_neg h2, if_neg h2]
    rw [List.size_toArray] at h2
    have hk2 : ∀ v ∈ keys', ∃ x d, d ∈ ks ∧ Dp X.K H x d ∧ RelV x v := dp_get dk rk
    refine wpAny_bind (PySem.W.kas_kind (T := .type "list") (by omega) (fun v hv => ?_) (by decide) (by decide) ?_)
    · obtain ⟨x, d, hd, hx, r⟩ := hk2 v hv
      obtain ⟨_, l, rfl⟩ := hls d hd
      have ty : s.TypeIs v "list" := dp_list I hx r
      obtain ⟨p, ys, rfl, _⟩ := hx.lst_inv
      obtain rfl : v = Value.ref p := r
      obtain ⟨o, ho, hc⟩ := (show ∃ o, s.heap.get? p = some o ∧ o.cls = Value.type "list" from ty)
      rw [← hc]
      exact (PySem.W.Looks.ld ho).andThen .now
    · have T : Srt.Tot X.prog X.w X.A.in1.in1 s oneType' (fun p => p.1 ∈ keys') := fun p q hp hq => by
        obtain ⟨x, d, hd, hx, r⟩ := hk2 p.1 hp
        obtain ⟨y, e, he, hy, r'⟩ := hk2 q.1 hq
        obtain ⟨dz, l, rfl⟩ := hls d hd
        exact oneLt_dp I hx hy r r' rfl (hal _ hd _ he) (by show X.A.units + 1 + 1 + 9 < cLine; omega) dz
      refine wpAny_bind (wpAny_mono (Srt.wpS_sortAny (st0 := SortSt.mk' oneType' (keys'.toArray.zip vs.toArray) #[] 7 none)
        (Q := fun _ st' => (arrOf st').Perm (keys'.toArray.zip vs.toArray) ∧ failedOf st' = none) T rfl (zip_all fun a h => h) rfl rfl fun st' a1 a2 => ⟨a1, a2⟩) ?_ fun _ _ e => e)
      rintro ⟨⟨⟩, st'⟩ s' ⟨rfl, hp, hf⟩
      try dsimp only
      exact tail st' hp hf
theorem cr_sortedKey (F : FnOk X.prog X.w X.K X.mg X.base CX0 k f fd [q] spf) (hr : Room (k + 2) X.A) (hb : Binds X.K fd [q] []) : CallRK X (.builtin "sorted") [Str.ofString "key"] (rSortedKey X.K f spf) := by
  intro pins s σ H vsV zs us ws Q I r rz h
  obtain ⟨l, xs, ks, rfl, rfl, hs, hl, hls, hal, hcall, qf⟩ := h
  obtain rfl := Vals.ref1 r
  obtain ⟨w1, rfl, ew⟩ := vals1 rz
  obtain rfl : w1 = Value.ref f := ew
  obtain ⟨vs, rv, pl, hz⟩ := I.list hs
  have lv := rv.length
  have hzv : vs.length ≤ sizeLine := by omega
  show wpAny _ _ (call (.builtin "sorted") [.ref l] [(Str.ofString "key", .ref f)]) _ _ _
  refine call_function_entry_kw kind_sorted plain_sorted entry_sorted (ksk_s1 _ _) ?_
  unfold Builtin.«sorted»
  refine wpAny_bind (m := checkCount "sorted" 1 1 _) (wpAny_pure ?_)
  refine wpAny_bind (collect_list pl.isList ?_ hzv)
  refine wpAny_bind (wpAny_newList ?_ hzv)
  have hsz : ((s.heap.push (seqObj "list" #[] 0)).update s.heap.objs.size (Obj.mapSeq (· ++ vs.toArray))).objs.size = s.heap.objs.size + 1 := by
    rw [Heap.size_update, size_push']
  have hoL : (((s.heap.push (seqObj "list" #[] 0)).update s.heap.objs.size (Obj.mapSeq (· ++ vs.toArray))).push (seqObj "list" vs.toArray 0)).get? (s.heap.objs.size + 1) = some (seqObj "list" vs.toArray 0) := by
    rw [← hsz]; exact Heap.get?_push_size _ rfl
  have keep : ∀ b o, s.heap.get? b = some o → (((s.heap.push (seqObj "list" #[] 0)).update s.heap.objs.size (Obj.mapSeq (· ++ vs.toArray))).push (seqObj "list" vs.toArray 0)).get? b = some o := fun b o q => by
    have hlt : b < s.heap.objs.size := Heap.lt_size q
    refine Heap.get?_push_of_some _ ?_
    rw [Heap.get?_update_ne _ _ _ _ (Nat.ne_of_lt hlt)]
    exact Heap.get?_push_of_some _ q
  show wpAny _ _ _ _ _ { s with heap := ((s.heap.push (seqObj "list" #[] 0)).update s.heap.objs.size (Obj.mapSeq (· ++ vs.toArray))).push (seqObj "list" vs.toArray 0) }
  rw [hsz]
  have hnone : H (s.heap.objs.size + 1) = none := I.hok.fresh (Nat.le_succ _)
  have fa0 : FpOk X pins H (s.heap.objs.size + 1) := I.fpOk (Nat.le_succ _) hnone
  have I1 : Inv X pins σ H { s with heap := ((s.heap.push (seqObj "list" #[] 0)).update s.heap.objs.size (Obj.mapSeq (· ++ vs.toArray))).push (seqObj "list" vs.toArray 0) } := I.kept (t' := s.toks) keep
  generalize ((s.heap.push (seqObj "list" #[] 0)).update s.heap.objs.size (Obj.mapSeq (· ++ vs.toArray))).push (seqObj "list" vs.toArray 0) = h1 at hoL I1 keep
  generalize s.heap.objs.size + 1 = a at hoL hnone fa0
  refine wpAny_bind (wpAny_holding (wpAny_call_entry_kw slot_list_sort ⟨_, hoL, rfl⟩ entry_list_sort ?body (ksk_l1 _ _)))
  case body =>
    rw [ksk_t1]
    have s1 := Heap.SameBut.update h1 a (Obj.mapSeq fun _ => (#[] : Array Value))
    obtain ⟨e1, ho1⟩ : ∃ e1, (h1.update a (Obj.mapSeq fun _ => (#[] : Array Value))).get? a = some (seqObj "list" #[] e1) := ⟨_, get?_update_seq hoL fun _ => #[]⟩
    unfold ksk_tree
    refine wpAny_bind (listItems_at hoL rfl ?_)
    refine wpAny_bind (listUpdate_at hoL rfl ?_ (by rw [List.size_toArray]; exact hzv) (Nat.zero_le _))
    refine wpAny_bind (seqEpoch_at ho1 rfl ?_)
    have I2 : Inv X pins σ H { s with heap := h1.update a (Obj.mapSeq fun _ => (#[] : Array Value)) } := I1.turned (t' := s.toks) (fun b o hb e => (s1.2 b hb).trans e) fa0.1 fa0.2.1 fa0.2.2.2.1 fa0.2.2.2.2.1 fa0.2.2.2.2.2
    refine wpAny_bind (wpAny_newTuple ?_ (by show vs.length ≤ _; exact hzv))
    have I3 : Inv X pins σ H { s with heap := (h1.update a (Obj.mapSeq fun _ => (#[] : Array Value))).push (seqObj "tuple" vs.toArray 0) } := I2.kept (t' := s.toks) fun b o e => Heap.get?_push_of_some _ e
    refine wpAny_bind (wpAny_newList ?_ (Nat.zero_le _))
    refine wpAny_holding ?_
    have fk0 : FpOk X pins H ((h1.update a (Obj.mapSeq fun _ => (#[] : Array Value))).push (seqObj "tuple" vs.toArray 0)).objs.size := I3.fpOk (Nat.le_refl _) (I3.hok.fresh (Nat.le_refl _))
    have ha2 : ((h1.update a (Obj.mapSeq fun _ => (#[] : Array Value))).push (seqObj "tuple" vs.toArray 0)).get? a = some (seqObj "list" #[] e1) := Heap.get?_push_of_some _ ho1
    have ne : a ≠ ((h1.update a (Obj.mapSeq fun _ => (#[] : Array Value))).push (seqObj "tuple" vs.toArray 0)).objs.size := Nat.ne_of_lt (Heap.lt_size ha2)
    have I4 : Inv X pins σ H { s with heap := ((h1.update a (Obj.mapSeq fun _ => (#[] : Array Value))).push (seqObj "tuple" vs.toArray 0)).push (seqObj "list" #[] 0) } := I3.kept (t' := s.toks) fun b o e => Heap.get?_push_of_some _ e
    refine key_calls (H0 := H) (xs := xs) (ks := ks) F hr hb rv hl hz hcall ⟨H, [], 0, [], I4, Ex.refl H, Heap.get?_push_size _ rfl, Heap.get?_push_of_some _ ha2, fa0, fk0, ne, .nil, by rw [List.take_zero]; exact .nil, rfl⟩ fun s2 keys e M2 hk2 => ?_
    refine key_end (H0 := H) (xs := xs) hr.units rv hl hz hls hal M2 hk2 fun s3 H3 out c I5 e5 f5 op oa => ⟨_, rfl, ?_⟩
    obtain ⟨ys, ry, py⟩ : ∃ ys : List V, Vals ys out ∧ ys.Perm xs := by
      have all : ∀ {us ws : List Value}, us.Perm ws → ∀ {xs : List V}, Vals xs ws → ∃ ys : List V, Vals ys us ∧ ys.Perm xs := by
        intro us ws p
        induction p with
        | nil => intro xs r; cases r; exact ⟨[], .nil, .refl _⟩
        | @cons x l1 l2 _ ih =>
          intro xs r
          cases r with
          | cons r t =>
            obtain ⟨ys, h1, h2⟩ := ih t
            exact ⟨_ :: ys, .cons r h1, h2.cons _⟩
        | swap x y l =>
          intro xs r
          cases r with
          | cons r1 t => cases t with
            | cons r2 t => exact ⟨_, .cons r2 (.cons r1 t), .swap ..⟩
        | trans _ _ ih1 ih2 =>
          intro xs r
          obtain ⟨ys, h1, h2⟩ := ih2 r
          obtain ⟨zs, h3, h4⟩ := ih1 h1
          exact ⟨zs, h3, h4.trans h2⟩
      exact all op rv
    refine wpAny_pure ⟨_, rfl, .ref a, _, adopt (t' := s3.toks) I5 f5 (h' := s3.heap) ⟨rfl, fun _ _ => rfl⟩ ⟨_, oa⟩ (show ObjOk X.prog X.w _ _ _ (.lst ys) from ⟨by rw [py.length_eq]; exact hz, out, c, ry, oa⟩), rfl, qf ys a H3 py e5 hnone f5.1⟩
end
end K33
/-! K4: the text by places; how calls are told; what evaluates to what. -/
namespace K33
open PySem PySem.Spec PyProof.Rows L2 Evl
/-! ### the text -/
def top (i : Nat) : Stmt := PySem.Challenge.pw_newsways_k33_whole_letters_lead_to_what.main.body.getD i (.Pass ⟨0, 0, 0, 0⟩)
abbrev s_is_whole : Stmt := top 12
abbrev s_is_span : Stmt := top 13
abbrev s_is_field : Stmt := top 17
abbrev s_are_parts : Stmt := top 18
abbrev s_is_wish : Stmt := top 19
abbrev s_does_cover : Stmt := top 22
abbrev s_law_covers : Stmt := top 55
abbrev s_rank : Stmt := top 23
abbrev s_is_name : Stmt := top 26
abbrev s_is_count : Stmt := top 27
abbrev s_is_letter : Stmt := top 32
abbrev s_look_wishes : Stmt := top 34
abbrev s_unlike : Stmt := top 35
abbrev s_is_below : Stmt := top 36
abbrev s_greatest_of : Stmt := top 37
abbrev s_look_holder : Stmt := top 41
abbrev s_look_unlike : Stmt := top 42
abbrev s_change : Stmt := top 43
abbrev s_Shelf_init : Stmt := inClass (top 44) 0
abbrev s_Shelf_put : Stmt := inClass (top 44) 3
abbrev s_Shelf_take : Stmt := inClass (top 44) 4
abbrev s_Shelf_greatest : Stmt := inClass (top 44) 5
abbrev s_Shelf_wishes : Stmt := inClass (top 44) 6
abbrev s_Post_init : Stmt := inClass (top 46) 0
abbrev s_Post_need_hand : Stmt := inClass (top 46) 1
abbrev s_Post_need_staying : Stmt := inClass (top 46) 2
abbrev s_Post_need_near : Stmt := inClass (top 46) 3
abbrev s_Post_news_of_wishes : Stmt := inClass (top 46) 4
abbrev s_Post_put_on : Stmt := inClass (top 46) 5
abbrev s_Post_take_off : Stmt := inClass (top 46) 6
abbrev s_Post_come : Stmt := inClass (top 46) 7
abbrev s_Post_go : Stmt := inClass (top 46) 8
abbrev s_Post_want : Stmt := inClass (top 46) 9
abbrev s_Post_unwant : Stmt := inClass (top 46) 10
abbrev s_Post_hear : Stmt := inClass (top 46) 15
abbrev s_Post_known : Stmt := inClass (top 46) 21
abbrev s_Post_said : Stmt := inClass (top 46) 22
abbrev s_law_pile : Stmt := top 48
abbrev s_law_take : Stmt := top 49
abbrev s_law_texts : Stmt := top 50
abbrev s_law_number : Stmt := top 51
abbrev s_law_wish : Stmt := top 52
abbrev s_law_near : Stmt := top 53
abbrev s_law_deed : Stmt := top 54
abbrev s_law_base : Stmt := top 56
abbrev s_law_all_covered : Stmt := top 57
abbrev s_law_heard_right : Stmt := top 58
abbrev s_law_said_right : Stmt := top 59
abbrev s_law : Stmt := top 60
theorem sc_is_whole : FnScope ["thing"] ["thing"] (defScope s_is_whole) := ⟨rfl, rfl, rfl, by decide +kernel, rfl, by decide +kernel, by decide +kernel⟩
theorem sc_is_span : FnScope ["thing", "end", "low", "high"] ["thing"] (defScope s_is_span) := ⟨rfl, rfl, rfl, by decide +kernel, rfl, by decide +kernel, by decide +kernel⟩
theorem sc_is_field : FnScope ["thing", "sign"] ["thing"] (defScope s_is_field) := ⟨rfl, rfl, rfl, by decide +kernel, rfl, by decide +kernel, by decide +kernel⟩
theorem sc_are_parts : FnScope ["thing", "size", "last", "part"] ["thing", "size"] (defScope s_are_parts) := ⟨rfl, rfl, rfl, by decide +kernel, rfl, by decide +kernel, by decide +kernel⟩
theorem sc_is_wish : FnScope ["thing", "field", "low", "high"] ["thing"] (defScope s_is_wish) := ⟨rfl, rfl, rfl, by decide +kernel, rfl, by decide +kernel, by decide +kernel⟩
theorem sc_does_cover : FnScope ["one", "other", "theirs", "field", "low", "high", "least", "most"] ["one", "other"] (defScope s_does_cover) := ⟨rfl, rfl, rfl, by decide +kernel, rfl, by decide +kernel, by decide +kernel⟩
theorem sc_law_covers : FnScope ["one", "other", "there", "field", "low", "high", "least", "most"] ["one", "other"] (defScope s_law_covers) := ⟨rfl, rfl, rfl, by decide +kernel, rfl, by decide +kernel, by decide +kernel⟩
theorem sc_rank : FnScope ["wish", "key", "field", "low", "high", "begin", "end"] ["wish"] (defScope s_rank) := ⟨rfl, rfl, rfl, by decide +kernel, rfl, by decide +kernel, by decide +kernel⟩
theorem sc_is_name : FnScope ["thing", "sign"] ["thing"] (defScope s_is_name) := ⟨rfl, rfl, rfl, by decide +kernel, rfl, by decide +kernel, by decide +kernel⟩
theorem sc_is_count : FnScope ["thing"] ["thing"] (defScope s_is_count) := ⟨rfl, rfl, rfl, by decide +kernel, rfl, by decide +kernel, by decide +kernel⟩
theorem sc_is_letter : FnScope ["thing"] ["thing"] (defScope s_is_letter) := ⟨rfl, rfl, rfl, by decide +kernel, rfl, by decide +kernel, by decide +kernel⟩
theorem sc_look_wishes : FnScope ["thing", "one"] ["thing"] (defScope s_look_wishes) := ⟨rfl, rfl, rfl, by decide +kernel, rfl, by decide +kernel, by decide +kernel⟩
theorem sc_unlike : FnScope ["wishes", "found", "wish"] ["wishes"] (defScope s_unlike) := ⟨rfl, rfl, rfl, by decide +kernel, rfl, by decide +kernel, by decide +kernel⟩
theorem sc_is_below : FnScope ["wish", "wishes", "one"] ["wish", "wishes"] (defScope s_is_below) := ⟨rfl, rfl, rfl, by decide +kernel, rfl, by decide +kernel, by decide +kernel⟩
theorem sc_greatest_of : FnScope ["wishes", "some", "wish"] ["wishes"] (defScope s_greatest_of) := ⟨rfl, rfl, rfl, by decide +kernel, rfl, by decide +kernel, by decide +kernel⟩
theorem sc_look_holder : FnScope ["holder", "sign"] ["holder"] (defScope s_look_holder) := ⟨rfl, rfl, rfl, by decide +kernel, rfl, by decide +kernel, by decide +kernel⟩
theorem sc_look_unlike : FnScope ["wishes"] ["wishes"] (defScope s_look_unlike) := ⟨rfl, rfl, rfl, by decide +kernel, rfl, by decide +kernel, by decide +kernel⟩
theorem sc_change : FnScope ["ahead", "behind", "come", "wish"] ["ahead", "behind"] (defScope s_change) := ⟨rfl, rfl, rfl, by decide +kernel, rfl, by decide +kernel, by decide +kernel⟩
theorem sc_Shelf_init : FnScope ["self"] ["self"] (defScope s_Shelf_init) := ⟨rfl, rfl, rfl, by decide +kernel, rfl, by decide +kernel, by decide +kernel⟩
theorem sc_Shelf_put : FnScope ["self", "holder", "wishes", "held", "wish", "ahead"] ["self", "holder", "wishes"] (defScope s_Shelf_put) := ⟨rfl, rfl, rfl, by decide +kernel, rfl, by decide +kernel, by decide +kernel⟩
theorem sc_Shelf_take : FnScope ["self", "holder", "wishes", "held", "wish", "ahead"] ["self", "holder", "wishes"] (defScope s_Shelf_take) := ⟨rfl, rfl, rfl, by decide +kernel, rfl, by decide +kernel, by decide +kernel⟩
theorem sc_Shelf_greatest : FnScope ["self", "beside", "some", "holder"] ["self", "beside"] (defScope s_Shelf_greatest) := ⟨rfl, rfl, rfl, by decide +kernel, rfl, by decide +kernel, by decide +kernel⟩
theorem sc_Shelf_wishes : FnScope ["self", "holder"] ["self", "holder"] (defScope s_Shelf_wishes) := ⟨rfl, rfl, rfl, by decide +kernel, rfl, by decide +kernel, by decide +kernel⟩
theorem sc_Post_init : FnScope ["self", "number", "neighbours", "neighbour"] ["self", "number", "neighbours"] (defScope s_Post_init) := ⟨rfl, rfl, rfl, by decide +kernel, rfl, by decide +kernel, by decide +kernel⟩
theorem sc_Post_need_hand : FnScope ["self", "hand"] ["self", "hand"] (defScope s_Post_need_hand) := ⟨rfl, rfl, rfl, by decide +kernel, rfl, by decide +kernel, by decide +kernel⟩
theorem sc_Post_need_staying : FnScope ["self", "hand"] ["self", "hand"] (defScope s_Post_need_staying) := ⟨rfl, rfl, rfl, by decide +kernel, rfl, by decide +kernel, by decide +kernel⟩
theorem sc_Post_need_near : FnScope ["self", "neighbour"] ["self", "neighbour"] (defScope s_Post_need_near) := ⟨rfl, rfl, rfl, by decide +kernel, rfl, by decide +kernel, by decide +kernel⟩
theorem sc_Post_news_of_wishes : FnScope ["self", "near", "letters", "neighbour", "before", "now", "wish"] ["self", "near"] (defScope s_Post_news_of_wishes) := ⟨rfl, rfl, rfl, by decide +kernel, rfl, by decide +kernel, by decide +kernel⟩
theorem sc_Post_put_on : FnScope ["self", "holder", "wishes"] ["self", "holder", "wishes"] (defScope s_Post_put_on) := ⟨rfl, rfl, rfl, by decide +kernel, rfl, by decide +kernel, by decide +kernel⟩
theorem sc_Post_take_off : FnScope ["self", "holder", "wishes"] ["self", "holder", "wishes"] (defScope s_Post_take_off) := ⟨rfl, rfl, rfl, by decide +kernel, rfl, by decide +kernel, by decide +kernel⟩
theorem sc_Post_come : FnScope ["self", "hand"] ["self", "hand"] (defScope s_Post_come) := ⟨rfl, rfl, rfl, by decide +kernel, rfl, by decide +kernel, by decide +kernel⟩
theorem sc_Post_go : FnScope ["self", "hand", "letters"] ["self", "hand"] (defScope s_Post_go) := ⟨rfl, rfl, rfl, by decide +kernel, rfl, by decide +kernel, by decide +kernel⟩
theorem sc_Post_want : FnScope ["self", "hand", "wish"] ["self", "hand", "wish"] (defScope s_Post_want) := ⟨rfl, rfl, rfl, by decide +kernel, rfl, by decide +kernel, by decide +kernel⟩
theorem sc_Post_unwant : FnScope ["self", "hand", "wish"] ["self", "hand", "wish"] (defScope s_Post_unwant) := ⟨rfl, rfl, rfl, by decide +kernel, rfl, by decide +kernel, by decide +kernel⟩
theorem sc_Post_hear : FnScope ["self", "neighbour", "letter"] ["self", "neighbour", "letter"] (defScope s_Post_hear) := ⟨rfl, rfl, rfl, by decide +kernel, rfl, by decide +kernel, by decide +kernel⟩
theorem sc_Post_known : FnScope ["self", "neighbour"] ["self", "neighbour"] (defScope s_Post_known) := ⟨rfl, rfl, rfl, by decide +kernel, rfl, by decide +kernel, by decide +kernel⟩
theorem sc_Post_said : FnScope ["self", "neighbour"] ["self", "neighbour"] (defScope s_Post_said) := ⟨rfl, rfl, rfl, by decide +kernel, rfl, by decide +kernel, by decide +kernel⟩
theorem sc_law_pile : FnScope ["script"] ["script"] (defScope s_law_pile) := ⟨rfl, rfl, rfl, by decide +kernel, rfl, by decide +kernel, by decide +kernel⟩
theorem sc_law_take : FnScope ["pile", "many", "digit", "cell", "mixed"] ["pile", "many"] (defScope s_law_take) := ⟨rfl, rfl, rfl, by decide +kernel, rfl, by decide +kernel, by decide +kernel⟩
theorem sc_law_texts : FnScope ["pile", "many", "letters", "last", "turn", "found", "head", "k", "size", "sign"] ["pile", "many"] (defScope s_law_texts) := ⟨rfl, rfl, rfl, by decide +kernel, rfl, by decide +kernel, by decide +kernel⟩
theorem sc_law_number : FnScope ["pile", "far"] ["pile"] (defScope s_law_number) := ⟨rfl, rfl, rfl, by decide +kernel, rfl, by decide +kernel, by decide +kernel⟩
theorem sc_law_wish : FnScope ["pile", "fields", "wish", "field", "sort", "one", "other", "spans"] ["pile", "fields"] (defScope s_law_wish) := ⟨rfl, rfl, rfl, by decide +kernel, rfl, by decide +kernel, by decide +kernel⟩
theorem sc_law_near : FnScope ["pile", "own", "found", "k", "step"] ["pile", "own"] (defScope s_law_near) := ⟨rfl, rfl, rfl, by decide +kernel, rfl, by decide +kernel, by decide +kernel⟩
theorem sc_law_deed : FnScope ["pile", "post", "hands", "known", "names", "wishes", "wish", "name", "near", "neighbour", "one"] ["pile", "post", "hands", "known", "names", "wishes"] (defScope s_law_deed) := ⟨rfl, rfl, rfl, by decide +kernel, rfl, by decide +kernel, by decide +kernel⟩
theorem sc_law_base : FnScope ["hands", "known", "beside", "found", "hand", "neighbour"] ["hands", "known", "beside"] (defScope s_law_base) := ⟨rfl, rfl, rfl, by decide +kernel, rfl, by decide +kernel, by decide +kernel⟩
theorem sc_law_all_covered : FnScope ["wishes", "heard", "wish", "one"] ["wishes", "heard"] (defScope s_law_all_covered) := ⟨rfl, rfl, rfl, by decide +kernel, rfl, by decide +kernel, by decide +kernel⟩
theorem sc_law_heard_right : FnScope ["letters", "heard", "before", "after", "last", "neighbour", "letter", "place", "stays", "wish", "one"] ["letters", "heard", "before", "after"] (defScope s_law_heard_right) := ⟨rfl, rfl, rfl, by decide +kernel, rfl, by decide +kernel, by decide +kernel⟩
theorem sc_law_said_right : FnScope ["said", "heard", "base", "k", "wish", "one"] ["said", "heard", "base"] (defScope s_law_said_right) := ⟨rfl, rfl, rfl, by decide +kernel, rfl, by decide +kernel, by decide +kernel⟩
theorem sc_law : FnScope ["script", "pile", "names", "fields", "wishes", "own", "near", "post", "hands", "known", "heard", "before", "neighbour", "turn", "letters", "given", "after", "k"] ["script"] (defScope s_law) := ⟨rfl, rfl, rfl, by decide +kernel, rfl, by decide +kernel, by decide +kernel⟩
abbrev FnP (K : PySem.W.Frag) (x qual : Str) (st : Stmt) (f : Addr) (fd : FuncData) : Prop := FunD K x qual (defArgs st) (defBody st) (defScope st) [] [] f fd
/-! ### built-in names -/
theorem bt_isinstance : bootBuiltins "isinstance" = some (.builtin "isinstance") := by decide +kernel
theorem bt_len : bootBuiltins "len" = some (.builtin "len") := by decide +kernel
theorem bt_all : bootBuiltins "all" = some (.builtin "all") := by decide +kernel
theorem bt_sorted : bootBuiltins "sorted" = some (.builtin "sorted") := by decide +kernel
theorem bt_int : bootBuiltins "int" = some (.type "int") := by decide +kernel
theorem bt_bool : bootBuiltins "bool" = some (.type "bool") := by decide +kernel
theorem bt_str : bootBuiltins "str" = some (.type "str") := by decide +kernel
theorem bt_tuple : bootBuiltins "tuple" = some (.type "tuple") := by decide +kernel
theorem bt_list : bootBuiltins "list" = some (.type "list") := by decide +kernel
def lettersS : Str := "abcdefghijklmnopqrstuvwxyz"
def signsS : Str := "abcdefghijklmnopqrstuvwxyz0123456789"
/-- what the top has left, as far as the walk asks -/
structure Txt (K : PySem.W.Frag) (mg : Str → Option Value) (CS CP : Addr) : Prop where
  n_isinstance : mg "isinstance" = none
  n_len : mg "len" = none
  n_all : mg "all" = none
  n_sorted : mg "sorted" = none
  n_int : mg "int" = none
  n_bool : mg "bool" = none
  n_str : mg "str" = none
  n_tuple : mg "tuple" = none
  n_list : mg "list" = none
  n_range : mg "range" = none
  gLETTERS : ∃ t, mg "LETTERS" = some (.str lettersS t)
  gSMALL : ∃ t, mg "SMALL" = some (.str lettersS t)
  gSIGNS : ∃ t, mg "SIGNS" = some (.str signsS t)
  gLONGEST_wishes : ∃ t, mg "LONGEST_wishes" = some (.int 8 t)
  gLONGEST_shelves : ∃ t, mg "LONGEST_shelves" = some (.int 15 t)
  clShelf : Cls K CS
  clPost : Cls K CP
  a_lists : NoAttr K CS "lists"
  a_many : NoAttr K CS "many"
  a_own : NoAttr K CP "own"
  a_near : NoAttr K CP "near"
  a_shelf : NoAttr K CP "shelf"
  a_marked : NoAttr K CP "marked"
  a_tellings : NoAttr K CP "tellings"
  a_spoken : NoAttr K CP "spoken"
/-! ### calls -/
/-- a def of the top: it keeps the promise sp -/
structure Cal (P : Program) (w : World) (K : PySem.W.Frag) (mg : Str → Option Value) (base : Heap) (x : Str) (k : Nat) (ps : List Str) (sp : Sp) where
  f : Addr
  fd : FuncData
  ok : FnOk P w K mg base CX0 k f fd ps sp
  mg : mg x = some (.ref f)
  kp : PySem.W.keepIn K (.ref f) = true
  bi : Binds K fd ps []
/-- a method -/
structure MCal (P : Program) (w : World) (K : PySem.W.Frag) (mg : Str → Option Value) (base : Heap) (C : Addr) (m : Str) (k : Nat) (ps : List Str) (sp : Sp) (dvs : List V) where
  f : Addr
  fd : FuncData
  ds : List Value
  ok : FnOk P w K mg base CX0 k f fd ps sp
  mt : Meth K C m f
  bi : Binds K fd ps ds
  dv : Vals dvs ds
/-- a class's making -/
structure KCal (P : Program) (w : World) (K : PySem.W.Frag) (mg : Str → Option Value) (base : Heap) (C : Addr) (x : Str) (k : Nat) (ps : List Str) (sp : Sp) where
  f : Addr
  fd : FuncData
  ok : FnOk P w K mg base CX0 k f fd ps sp
  mkr : Mk K C f
  mg : mg x = some (.ref C)
  bi : Binds K fd ps []
/-- a method that is called by one keyword -/
structure WCal (P : Program) (w : World) (K : PySem.W.Frag) (mg : Str → Option Value) (base : Heap) (C : Addr) (m key : Str) (k : Nat) (ps : List Str) (sp : Sp) where
  f : Addr
  fd : FuncData
  g : List Value → List Value → List Value
  gV : List V → List V → List V
  ok : FnOk P w K mg base CX0 k f fd ps sp
  mt : Meth K C m f
  bi : KBn K fd ps 1 [key] g gV
  ge : ∀ x y, gV [x] [y] = [x, y]
def tMethW (C : Addr) (m : Str) (sp : Sp) (E : XK) (ta : TE) (tk : TA) : TE := fun σ H Q => ta σ H fun x H1 => ∃ a dx fs, x = .ref a ∧ H1 a = some (.ins C dx fs) ∧ fs.lookup m = none ∧
  tk σ H1 fun zs H2 => ∃ z, zs = [z] ∧ sp [x, z] H2 Q E
section
variable {X : Cx} {x m key : Str} {k j : Nat} {ps : List Str} {sp : Sp} {dvs : List V} {C : Addr} {p pos apos kpos : Pos} {e o : Expr} {es : List Expr} {t : TA} {ta te : TE}
theorem pe_c (c : Cal X.prog X.w X.K X.mg X.base x k ps sp) (hr : Room j X.A) (hj : k ≤ j) (hg : Gl X x) (ha : PA X (e :: es) t) (hdb : (x == ("__debug__" : Str)) = false := by decide)
    (he : starEach (e :: es) X.env = (false, eval e X.env) :: starEach es X.env := by rfl) (hpl : (backTo pos (starEach es X.env)).any (·.1) = false := by rfl) : PE X (.Call (.Name x p) (e :: es) [] pos) (tCall sp [] E0 t) :=
  pe_call c.ok (hr.mono hj) hg c.mg c.kp c.bi .nil pass0 ha hdb he hpl
theorem pe_m {pl : Sem Bool} (c : MCal X.prog X.w X.K X.mg X.base C m k ps sp dvs) (ho : PE X o ta) (cl : Cls X.K C) (hr : Room j X.A) (hj : k ≤ j) (ha : PA X (e :: es) t)
    (hst : starEach (e :: es) X.env = (false, eval e X.env) :: starEach es X.env := by rfl) (hpl : (backTo pos (starEach es X.env)).any (·.1) = false := by rfl)
    (ht : eval (.Call (.Attribute o m apos) (e :: es) [] pos) X.env = (do
      let ov ← eval o X.env
      standAt apos.atName
      let (f, first) ← holding [ov] (getMethod ov m pl)
      callWith pos f first (backTo pos (starEach (e :: es) X.env)) (backToKw pos (keywordEach [] X.env))) := by rfl) : PE X (.Call (.Attribute o m apos) (e :: es) [] pos) (tMeth C m sp dvs E0 ta t) :=
  pe_meth ho cl c.mt c.ok (hr.mono hj) c.bi c.dv pass0 ha hst hpl ht
theorem pe_m0 {pl : Sem Bool} (c : MCal X.prog X.w X.K X.mg X.base C m k ps sp dvs) (ho : PE X o ta) (cl : Cls X.K C) (hr : Room j X.A) (hj : k ≤ j)
    (ht : eval (.Call (.Attribute o m apos) [] [] pos) X.env = (do
      let ov ← eval o X.env
      standAt apos.atName
      let (f, first) ← holding [ov] (getMethod ov m pl)
      callWith pos f first (backTo pos (starEach [] X.env)) (backToKw pos (keywordEach [] X.env))) := by rfl) : PE X (.Call (.Attribute o m apos) [] [] pos) (tMeth C m sp dvs E0 ta tNil) :=
  pe_meth0 ho cl c.mt c.ok (hr.mono hj) c.bi c.dv pass0 ht
theorem pe_mk (c : KCal X.prog X.w X.K X.mg X.base C x k ps sp) (hr : Room j X.A) (hj : k + 1 ≤ j) (hg : Gl X x) (ha : PA X (e :: es) t) (hdb : (x == ("__debug__" : Str)) = false := by decide)
    (he : starEach (e :: es) X.env = (false, eval e X.env) :: starEach es X.env := by rfl) (hpl : (backTo pos (starEach es X.env)).any (·.1) = false := by rfl) : PE X (.Call (.Name x p) (e :: es) [] pos) (tMake C sp [] E0 t) :=
  pe_make c.mkr c.ok (hr.mono hj) hg c.mg c.bi .nil pass0 ha hdb he hpl
theorem pe_mk0 (c : KCal X.prog X.w X.K X.mg X.base C x k ps sp) (hr : Room j X.A) (hj : k + 1 ≤ j) (hg : Gl X x) (hdb : (x == ("__debug__" : Str)) = false := by decide) : PE X (.Call (.Name x p) [] [] pos) (tMake C sp [] E0 tNil) :=
  pe_make0 c.mkr c.ok (hr.mono hj) hg c.mg c.bi .nil pass0 hdb
/-- o.m(key = e) -/
theorem pe_mkw {pl : Sem Bool} (c : WCal X.prog X.w X.K X.mg X.base C m key k ps sp) (ho : PE X o ta) (cl : Cls X.K C) (hr : Room j X.A) (hj : k ≤ j) (hk : PK X [⟨some key, e, kpos⟩] t)
    (hall : (backToKw pos (keywordEach [⟨some key, e, kpos⟩] X.env)).all (·.1.isSome) = true := by rfl) (hks : (backToKw pos (keywordEach [⟨some key, e, kpos⟩] X.env)).filterMap (·.1) = [key] := by rfl)
    (hpl : ((backTo pos (starEach [] X.env)).any (·.1) || (backToKw pos (keywordEach [⟨some key, e, kpos⟩] X.env)).any (·.1.isNone)) = false := by rfl)
    (ht : eval (.Call (.Attribute o m apos) [] [⟨some key, e, kpos⟩] pos) X.env = (do
      let ov ← eval o X.env
      standAt apos.atName
      let (f, first) ← holding [ov] (getMethod ov m pl)
      callWith pos f first (backTo pos (starEach [] X.env)) (backToKw pos (keywordEach [⟨some key, e, kpos⟩] X.env))) := by rfl) : PE X (.Call (.Attribute o m apos) [] [⟨some key, e, kpos⟩] pos) (tMethW C m sp E0 ta t) := by
  refine ⟨fun pins s σ H Q I h => ?_⟩
  refine PySem.W.methodCall_KW (pl := pl) (thn (ho.run pins s σ H _ I h) fun u s1 ⟨y, H1, I1, rx, a, dx, fs, ex, ea, l, q⟩ => ?_) ht
  subst ex
  obtain rfl : u = Value.ref a := rx
  refine getmeth_ok I1 ea cl c.mt l ?_
  refine PySem.W.callWith_KW0 (first := [.ref a]) (h₀ := X.base) I.ok.mod.kin c.mt.kp hall (thn (hk.run pos pins s1 σ H1 _ I1 q) fun ws s2 ⟨zs, H2, I2, rz, z, ez, q2⟩ => ⟨I2.kIn, ?_⟩) hpl
  subst ez
  rw [hks]
  refine run_fnN (us := [.ref a]) (vs := [.ref a]) (zs := [z]) c.ok (hr.mono hj) c.bi pass0 I2 (.cons rfl .nil) rz rfl rfl ?_
  rw [c.ge]
  exact q2
theorem pe_gs {z : Str} (h : ∃ t, X.mg x = some (.str z t)) (hg : Gl X x := by rfl) (hd : (x == ("__debug__" : Str)) = false := by decide) : PE X (.Name x pos) (tC (.str z)) := let ⟨t, e⟩ := h; pe_glob hg e ⟨t, rfl⟩ hd
theorem pe_gi {i : Int} (h : ∃ t, X.mg x = some (.int i t)) (hg : Gl X x := by rfl) (hd : (x == ("__debug__" : Str)) = false := by decide) : PE X (.Name x pos) (tC (.int i)) := let ⟨t, e⟩ := h; pe_glob hg e ⟨t, rfl⟩ hd
end
theorem u9 {A : Around} {k : Nat} (hr : Room k A) : A.units + 9 < cLine := by have := hr.units; omega
theorem u65 {A : Around} {k : Nat} (hr : Room k A) : A.units + 65 < cLine := by have := hr.un; omega
/-! ### promises of pure defs -/
/-- hands back r, all that stood stands -/
def spR (R : List V → Hp → V → Prop) : Sp := fun vs H Q _ => ∃ r, R vs H r ∧ ∀ H', Ex H H' → Q r H'
/-- hands back a new list of xs -/
def spL (R : List V → Hp → List V → Prop) : Sp := fun vs H Q _ => ∃ xs, R vs H xs ∧ ∀ p H', H p = none → Ex H H' → H' p = some (.lst xs) → Q (.ref p) H'
/-! ### what evaluates to what -/
section
variable {K : PySem.W.Frag} {σ : L2.St} {H H' : Hp} {ta tb te tx tc : TE} {t u : TT} {x y z v : V} {r : R2}
theorem ev_c1 {R : List V → Hp → V → Prop} {ta : TA} {vs : List V} {E : XK} (h : EvA ta σ H vs) (hs : ∀ H1, Ex H H1 → R vs H1 z) : Ev (tCall (spR R) [] E ta) σ H z :=
  ev_call h fun H1 e Q q E => ⟨z, by rw [List.append_nil]; exact hs H1 e, fun H2 e2 => q H2 e2⟩
theorem el_c1 {R : List V → Hp → List V → Prop} {ta : TA} {vs xs : List V} {E : XK} (h : EvA ta σ H vs) (hs : ∀ H1, Ex H H1 → R vs H1 xs) : EvL (tCall (spL R) [] E ta) σ H xs :=
  el_call h fun H1 e Q q E => ⟨xs, by rw [List.append_nil]; exact hs H1 e, fun p H2 hp e2 h2 => q p H2 hp e2 h2⟩
theorem ev_isi {a n : String} {b : Bool} (h : Ev ta σ H x) (ty : ∀ H1, Ex H H1 → TyX K H1 x (.type a)) (e : kitB a n = some b) : Ev (tCB (rIsi K) (tCons ta (tCons (tC (.ty n)) tNil))) σ H (.bl b) := fun H1 e1 Q q =>
  h H1 e1 _ fun H2 e2 => ⟨x, .ty n, .type a, .type n, b, rfl, .ty n, ty H2 (e1.trans e2), kit_ty e, q H2 e2⟩
theorem ty_tup {a : Addr} {xs : List V} (h : SqT K H a xs) : TyX K H (.ref a) (.type "tuple") := by
  rcases h with (h | ⟨o, h⟩) | ⟨o, its, n, h, c, _⟩
  · exact .base (.tup h)
  · exact .fTuple h
  · exact .kTuple h c
theorem ty_lst {a : Addr} {xs : List V} (h : SqL K H a xs) : TyX K H (.ref a) (.type "list") := by
  rcases h with (h | ⟨o, h⟩) | ⟨o, its, n, h, c, _⟩
  · exact .base (.lst h)
  · exact .base (.frz h)
  · exact .kList h c
theorem ty_int {i : Int} : TyX K H (.int i) (.type "int") := .base (.int i)
theorem ty_str {z : Str} : TyX K H (.str z) (.type "str") := .base (.str z)
theorem ev_fld {a C dx : Addr} {fs : List (Str × V)} {f : Str} (h : Ev ta σ H (.ref a)) (ho : H a = some (.ins C dx fs)) (hc : Cls K C) (hn : NoAttr K C f) (hl : fs.lookup f = some v) : Ev (tFld K ta f) σ H v := fun H1 e Q q =>
  h H1 e _ fun H2 e2 => ⟨a, C, dx, fs, v, rfl, e2 _ _ (e _ _ ho), hc, hn, hl, q H2 e2⟩
theorem dget_ex {a : Addr} {o : Option V} (e : Ex H H') (g : DGet H a y o) : DGet H' a y o := by
  rcases g with ⟨kvs, k, h1, h2⟩ | ⟨kvs, k, b, h1, h2, h3, h4⟩
  · exact .inl ⟨kvs, k, ex_rd e h1, h2⟩
  · exact .inr ⟨kvs, k, b, ex_rd e h1, h2, e _ _ h3, h4⟩
theorem ev_dget {a : Addr} (h : Ev ta σ H (.ref a)) (hy : Ev tb σ H y) (g : DGet H a y (some v)) : Ev (tDGet ta tb) σ H v := fun H1 e Q q =>
  h H1 e _ fun H2 e2 => hy H2 (e.trans e2) _ fun H3 e3 => ⟨a, v, rfl, dget_ex ((e.trans e2).trans e3) g, q H3 (e2.trans e3)⟩
theorem ev_din {a : Addr} {o : Option V} (hy : Ev tb σ H y) (h : Ev ta σ H (.ref a)) (g : DGet H a y o) : Ev (tDIn tb ta) σ H (.bl o.isSome) := fun H1 e Q q =>
  hy H1 e _ fun H2 e2 => h H2 (e.trans e2) _ fun H3 e3 => ⟨a, o, rfl, dget_ex ((e.trans e2).trans e3) g, q H3 (e2.trans e3)⟩
theorem ev_dnin {a : Addr} {o : Option V} (hy : Ev tb σ H y) (h : Ev ta σ H (.ref a)) (g : DGet H a y o) : Ev (tDNotIn tb ta) σ H (.bl (!o.isSome)) := fun H1 e Q q =>
  hy H1 e _ fun H2 e2 => h H2 (e.trans e2) _ fun H3 e3 => ⟨a, o, rfl, dget_ex ((e.trans e2).trans e3) g, q H3 (e2.trans e3)⟩
theorem ev_nin {P : Program} {w : World} {a d : Addr} {k : Wish} {xs : NE} (hy : Ev tb σ H (.ref a)) (h : Ev ta σ H (.ref d)) (D : DN P w K H d xs) (hk : WA K H (.ref a) k) : Ev (tNIn P w K tb ta) σ H (.bl (valN xs k).isSome) := fun H1 e Q q =>
  hy H1 e _ fun H2 e2 => h H2 (e.trans e2) _ fun H3 e3 => ⟨a, d, k, xs, rfl, rfl, ⟨((e.trans e2).trans e3) _ _ D.at_, fun x hx => (D.ks x hx).ex ((e.trans e2).trans e3), D.nd⟩, hk.ex ((e.trans e2).trans e3), q H3 (e2.trans e3)⟩
theorem ev_nnin {P : Program} {w : World} {a d : Addr} {k : Wish} {xs : NE} (hy : Ev tb σ H (.ref a)) (h : Ev ta σ H (.ref d)) (D : DN P w K H d xs) (hk : WA K H (.ref a) k) : Ev (tNNotIn P w K tb ta) σ H (.bl (!(valN xs k).isSome)) := fun H1 e Q q =>
  hy H1 e _ fun H2 e2 => h H2 (e.trans e2) _ fun H3 e3 => ⟨a, d, k, xs, rfl, rfl, ⟨((e.trans e2).trans e3) _ _ D.at_, fun x hx => (D.ks x hx).ex ((e.trans e2).trans e3), D.nd⟩, hk.ex ((e.trans e2).trans e3), q H3 (e2.trans e3)⟩
/-- deep comparisons -/
theorem rv_eqD {d e : PyData} {b : Bool} (hd : ∀ H1, Ex H H1 → Dp K H1 x d) (he : ∀ H1, Ex H H1 → Dp K H1 y e) (sd : SeqAt.shaped d = true) (se : SeqAt.shaped e = true) (q : PyData.eqv d e = b) : RV (rEqD K) x y H (.bl b) := fun H1 ex Q k =>
  ⟨d, e, hd H1 ex, he H1 ex, sd, se, by rw [q]; exact k H1 (Ex.refl H1)⟩
theorem rv_neD {d e : PyData} {b : Bool} (hd : ∀ H1, Ex H H1 → Dp K H1 x d) (he : ∀ H1, Ex H H1 → Dp K H1 y e) (sd : SeqAt.shaped d = true) (se : SeqAt.shaped e = true) (q : (!PyData.eqv d e) = b) : RV (rNeD K) x y H (.bl b) := fun H1 ex Q k =>
  ⟨d, e, hd H1 ex, he H1 ex, sd, se, by rw [q]; exact k H1 (Ex.refl H1)⟩
theorem rv_neW {a b : Wish} (ha : WA K H x a) (hb : WA K H y b) (oa : WOk a) (ob : WOk b) : RV (rNeD K) x y H (.bl (decide (a ≠ b))) :=
  rv_neD (fun _ e => ha.ex e) (fun _ e => hb.ex e) (wD_shaped oa) (wD_shaped ob) (by rw [wD_eqv]; simp)
theorem rv_inW {p : Addr} {a : Wish} {ws : List Wish} (ha : WA K H x a) (hb : LA K H p ws) (oa : WOk a) (ob : AllOk ws) : RV (rInD K) x (.ref p) H (.bl (decide (a ∈ ws))) := fun H1 ex Q k =>
  ⟨wD a, ws.map wD, ha.ex ex, (hb.ex ex).dp, wD_shaped oa, lD_shaped ob, by rw [any_eqv]; exact k H1 (Ex.refl H1)⟩
theorem rv_ninW {p : Addr} {a : Wish} {ws : List Wish} (ha : WA K H x a) (hb : LA K H p ws) (oa : WOk a) (ob : AllOk ws) : RV (rNotInD K) x (.ref p) H (.bl (!decide (a ∈ ws))) := fun H1 ex Q k =>
  ⟨wD a, ws.map wD, ha.ex ex, (hb.ex ex).dp, wD_shaped oa, lD_shaped ob, by rw [any_eqv]; exact k H1 (Ex.refl H1)⟩
theorem rv_isN {r : R2} (hr : r = rIsN) : RV r x .non H (.bl (decide (x = .non))) := fun H1 _ Q k => by rw [hr]; exact ⟨rfl, k H1 (Ex.refl H1)⟩
theorem rv_notN : RV rNotN x .non H (.bl (!decide (x = .non))) := fun H1 _ Q k => ⟨rfl, k H1 (Ex.refl H1)⟩
theorem rv_inS {c : Nat} {w : Str} : RV rInS (.str ⟨#[c]⟩) (.str w) H (.bl (decide (c ∈ w.cps.toList))) := fun H1 _ Q k => ⟨c, w, rfl, rfl, k H1 (Ex.refl H1)⟩
theorem rv_ninS {c : Nat} {w : Str} : RV rNotInS (.str ⟨#[c]⟩) (.str w) H (.bl (!decide (c ∈ w.cps.toList))) := fun H1 _ Q k => ⟨c, w, rfl, rfl, k H1 (Ex.refl H1)⟩
theorem ev_lenT {p : Addr} {xs : List V} (h : Ev ta σ H (.ref p)) (hx : SqT K H p xs) : Ev (tCB (fun xs H Q => ∃ p ys, xs = [V.ref p] ∧ (SqL K H p ys ∨ SqT K H p ys) ∧ Q (.int ys.length) H) (tCons ta tNil)) σ H (.int (xs.length : Int)) := fun H1 e Q q =>
  h H1 e _ fun H2 e2 => ⟨p, xs, rfl, Or.inr (ex_t (e.trans e2) hx), q H2 e2⟩
theorem ev_lenL {p : Addr} {xs : List V} (h : Ev ta σ H (.ref p)) (hx : SqL K H p xs) : Ev (tCB (fun xs H Q => ∃ p ys, xs = [V.ref p] ∧ (SqL K H p ys ∨ SqT K H p ys) ∧ Q (.int ys.length) H) (tCons ta tNil)) σ H (.int (xs.length : Int)) := fun H1 e Q q =>
  h H1 e _ fun H2 e2 => ⟨p, xs, rfl, Or.inl (ex_l (e.trans e2) hx), q H2 e2⟩
theorem ev_lenS {z : Str} (h : Ev ta σ H (.str z)) (hz : z.length ≤ 100000) : Ev (tCB (fun xs H Q => ∃ z, xs = [V.str z] ∧ z.length ≤ sizeLine ∧ Q (.int z.length) H) (tCons ta tNil)) σ H (.int (z.length : Int)) := fun H1 e Q q =>
  h H1 e _ fun H2 e2 => ⟨z, rfl, sz_of hz, q H2 e2⟩
theorem ev_strI {i : Int} (h : Ev ta σ H (.int i)) (hz : i.natAbs.log2 < 1920) : Ev (tCB (fun xs H Q => ∃ i, xs = [V.int i] ∧ i.natAbs.log2 < 1920 ∧ Q (.str (toString i)) H) (tCons ta tNil)) σ H (.str (toString i)) := fun H1 e Q q =>
  h H1 e _ fun H2 e2 => ⟨i, rfl, hz, q H2 e2⟩
/-- a < b < c as a value -/
theorem ev_chain {r r' : R2} {b c : Bool} (ha : Ev ta σ H x) (hb : Ev tb σ H y) (hc : Ev tc σ H z) (h1 : RV r x y H (.bl b)) (h2 : RV r' y z H (.bl c)) : Ev (tChain r r' ta tb tc) σ H (.bl (b && c)) := fun H1 e Q q =>
  ha H1 e _ fun H2 e2 => hb H2 (e.trans e2) _ fun H3 e3 => h1 H3 ((e.trans e2).trans e3) _ fun H4 e4 => ⟨b, rfl, by
    cases b with
    | true => exact hc H4 (((e.trans e2).trans e3).trans e4) _ fun H5 e5 => h2 H5 ((((e.trans e2).trans e3).trans e4).trans e5) Q fun H6 e6 => q H6 ((((e2.trans e3).trans e4).trans e5).trans e6)
    | false => exact q H4 ((e2.trans e3).trans e4)⟩
theorem et_cmp {b : Bool} {ta tb : TE} (ha : Ev ta σ H x) (hb : Ev tb σ H y) (h : RV r x y H (.bl b)) : EvT (tTest (tOp r ta tb)) σ H b := et_test (ev_op ha hb h)
/-- for over a tuple, the last statement or not -/
theorem ev_tupN {ta : TA} {vs : List V} (h : EvA ta σ H vs) (hl : vs.length ≤ 100000) : EvU (tTup ta) σ H vs := eu_tup h hl
end
/-! ### loops over signs of a text, over the keys of a locked dict -/
theorem for_str {z : Str} {g : TG} {tb : TS} {D : Ends} {σ : L2.St} {H : Hp} (Pv : Nat → L2.St → Hp → Prop) (h0 : Pv 0 σ H)
    (hs : ∀ i c σ H, z.cps.toList[i]? = some c → Pv i σ H → g (.str ⟨#[c]⟩) σ H fun σ2 H2 => tb { D with nx := Pv (i + 1), ct := Pv (i + 1), bk := D.nx } σ2 H2) (hd : ∀ σ H, Pv z.cps.toList.length σ H → D.nx σ H) :
    ∃ W : Nat → Nat → L2.St → Hp → Prop, (∃ m, W 0 m σ H) ∧ ∀ i m σ H, W i m σ H →
      ((Its z).stop i H ∧ D.nx σ H) ∨ ((Its z).go i H ∧ ∃ N : L2.St → Hp → Prop, (∀ σ' H', N σ' H' → ∃ m', m' < m ∧ W (i + 1) m' σ' H') ∧ ∀ x H', (Its z).yld i H x H' → g x σ H' fun σ2 H2 => tb { D with nx := N, ct := N, bk := D.nx } σ2 H2) := by
  have lz : z.cps.toList.length = z.cps.size := Array.length_toList
  refine ⟨fun i m σ H => m = z.cps.size - i ∧ i ≤ z.cps.size ∧ Pv i σ H, ⟨z.cps.size, by simp, Nat.zero_le _, h0⟩, ?_⟩
  rintro i m σ H ⟨rfl, hi, p⟩
  by_cases hlt : i < z.cps.size
  · refine .inr ⟨hlt, Pv (i + 1), fun σ' H' p' => ⟨z.cps.size - (i + 1), by omega, rfl, hlt, p'⟩, fun x H' y => ?_⟩
    obtain ⟨e, c, hc, y⟩ := y
    subst e y
    exact hs i c σ _ (by rw [Array.getElem?_toList]; exact hc) p
  · have e : i = z.cps.size := by omega
    subst e
    exact .inl ⟨Nat.le_refl _, hd σ H (by rw [lz]; exact p)⟩
theorem for_keys {d : Addr} {o : Obj} {kvs : List (Key × V)} {g : TG} {tb : TS} {D : Ends} {σ : L2.St} {H : Hp} (Pv : Nat → L2.St → Hp → Prop) (h0 : Pv 0 σ H) (hl : ∀ i σ H, Pv i σ H → H d = some (.frz o (.dK kvs)))
    (hs : ∀ i k v σ H, kvs[i]? = some (k, v) → Pv i σ H → g (kV k) σ H fun σ2 H2 => tb { D with nx := Pv (i + 1), ct := Pv (i + 1), bk := D.nx } σ2 H2) (hd : ∀ σ H, Pv kvs.length σ H → D.nx σ H) :
    ∃ W : Nat → Nat → L2.St → Hp → Prop, (∃ m, W 0 m σ H) ∧ ∀ i m σ H, W i m σ H →
      ((Itk d o kvs).stop i H ∧ D.nx σ H) ∨ ((Itk d o kvs).go i H ∧ ∃ N : L2.St → Hp → Prop, (∀ σ' H', N σ' H' → ∃ m', m' < m ∧ W (i + 1) m' σ' H') ∧ ∀ x H', (Itk d o kvs).yld i H x H' → g x σ H' fun σ2 H2 => tb { D with nx := N, ct := N, bk := D.nx } σ2 H2) := by
  refine ⟨fun i m σ H => m = kvs.length - i ∧ i ≤ kvs.length ∧ Pv i σ H, ⟨kvs.length, by simp, Nat.zero_le _, h0⟩, ?_⟩
  rintro i m σ H ⟨rfl, hi, p⟩
  by_cases hlt : i < kvs.length
  · refine .inr ⟨⟨hl i σ H p, hlt⟩, Pv (i + 1), fun σ' H' p' => ⟨kvs.length - (i + 1), by omega, rfl, hlt, p'⟩, fun x H' y => ?_⟩
    obtain ⟨e, k, v, hc, y⟩ := y
    subst e y
    exact hs i k v σ _ hc p
  · have e : i = kvs.length := by omega
    subst e
    exact .inl ⟨⟨hl _ σ H p, Nat.le_refl _⟩, hd σ H p⟩
/-- a comprehension over the signs of a text -/
theorem lc_str {z : Str} {g : TG} {tt : TT} {te : TE} {vs : List Nat} {σ : L2.St} {H1 : Hp} {D : Addr} {Qd : Hp → Prop} (Pv : Nat → Hp → Prop) (h0 : Pv 0 (upd H1 D (.lst [])))
    (hs : ∀ i c H, z.cps.toList[i]? = some c → Pv i H → g (.str ⟨#[c]⟩) (wipe σ vs) H fun σ2 H2 => wipe σ2 vs = wipe σ vs ∧ tt σ2 H2 fun b H3 =>
      if b = true then te σ2 H3 fun y H4 => ∃ acc, H4 D = some (.lst acc) ∧ acc.length < sizeLine ∧ Pv (i + 1) (upd H4 D (.lst (acc ++ [y]))) else Pv (i + 1) H3) (hd : ∀ H, Pv z.cps.toList.length H → Qd H) :
    ∃ W : Nat → Nat → Hp → Prop, (∃ m, W 0 m (upd H1 D (.lst []))) ∧ ∀ i m H, W i m H →
      ((Its z).stop i H ∧ Qd H) ∨ ((Its z).go i H ∧ ∃ Nx : Hp → Prop, (∀ H', Nx H' → ∃ m', m' < m ∧ W (i + 1) m' H') ∧ ∀ x H', (Its z).yld i H x H' → g x (wipe σ vs) H' fun σ2 H2 => wipe σ2 vs = wipe σ vs ∧ tt σ2 H2 fun b H3 =>
        if b = true then te σ2 H3 fun y H4 => ∃ acc, H4 D = some (.lst acc) ∧ acc.length < sizeLine ∧ Nx (upd H4 D (.lst (acc ++ [y]))) else Nx H3) := by
  have lz : z.cps.toList.length = z.cps.size := Array.length_toList
  refine ⟨fun i m H => m = z.cps.size - i ∧ i ≤ z.cps.size ∧ Pv i H, ⟨z.cps.size, by simp, Nat.zero_le _, h0⟩, ?_⟩
  rintro i m H ⟨rfl, hi, p⟩
  by_cases hlt : i < z.cps.size
  · refine .inr ⟨hlt, Pv (i + 1), fun H' p' => ⟨z.cps.size - (i + 1), by omega, rfl, hlt, p'⟩, fun x H' y => ?_⟩
    obtain ⟨e, c, hc, y⟩ := y
    subst e y
    exact hs i c _ (by rw [Array.getElem?_toList]; exact hc) p
  · have e : i = z.cps.size := by omega
    subst e
    exact .inl ⟨Nat.le_refl _, hd H (by rw [lz]; exact p)⟩
/-- .. as what evaluates to what -/
theorem el_lcS {z : Str} {tl : TE} {t : TT} {te : TE} {σ : L2.St} {H : Hp} {j : Nat} {vs : List Nat} (f : Nat → Bool) (v : Nat → V) (h : Ev tl σ H (.str z)) (hz : z.cps.toList.length ≤ 40000) (hw : ∀ x, wipe ((wipe σ vs).set j (some x)) vs = wipe σ vs)
    (ht : ∀ (i : Nat) (c : Nat) H1, Ex H H1 → z.cps.toList[i]? = some c → EvT t ((wipe σ vs).set j (some (.str ⟨#[c]⟩))) H1 (f i)) (he : ∀ (i : Nat) (c : Nat) H1, Ex H H1 → z.cps.toList[i]? = some c → f i = true → Ev te ((wipe σ vs).set j (some (.str ⟨#[c]⟩))) H1 (v i)) :
    EvL (tLc (iStr tl) (gName j) t te vs) σ H (given z.cps.toList.length f v) := fun H0 e Q q => h H0 e _ fun H1 e1 => ⟨z, rfl, fun Dl hD =>
  lc_str (z := z) (Cw H1 f v Dl) ⟨hD, Ex.new hD, upd_same⟩ (fun i x H' hi p => ⟨hw _, cw_turn p (by have := (List.getElem?_eq_some_iff.mp hi).1; omega) (ht i x H1 (e.trans e1) hi) (fun hf => he i x H1 (e.trans e1) hi hf)⟩)
    (fun H' p => q Dl H' (fresh_back e1 p.1) (e1.trans p.2.1) p.2.2)⟩
end K33
/-! K5: the looks: is_whole .. is_letter. -/
namespace K33
open PySem PySem.Spec PyProof.Rows L2 Evl
section
variable {K : PySem.W.Frag} {σ : L2.St} {H : Hp} {D : Ends} {tu tz : TS} {te : TE}
theorem s_forS {z : Str} {j : Nat} (h : Ev te σ H (.str z)) (Pv : Nat → L2.St → Hp → Prop) (h0 : ∀ H1, Ex H H1 → Pv 0 σ H1)
    (hs : ∀ i c σ' H', z.cps.toList[i]? = some c → Pv i σ' H' → tu { D with nx := Pv (i + 1), ct := Pv (i + 1), bk := D.nx } (σ'.set j (some (.str ⟨#[c]⟩))) H') (hd : ∀ σ' H', Pv z.cps.toList.length σ' H' → D.nx σ' H') : tFor (iStr te) (gName j) tu D σ H :=
  h H (Ex.refl H) _ fun H1 e => ⟨z, rfl, for_str Pv (h0 H1 e) (fun i c σ' H' hi p => hs i c σ' H' hi p) hd⟩
theorem q_forS {z : Str} {j : Nat} (h : Ev te σ H (.str z)) (Pv : Nat → L2.St → Hp → Prop) (h0 : ∀ H1, Ex H H1 → Pv 0 σ H1)
    (hs : ∀ i c σ' H', z.cps.toList[i]? = some c → Pv i σ' H' → tu { D with nx := Pv (i + 1), ct := Pv (i + 1), bk := tz D } (σ'.set j (some (.str ⟨#[c]⟩))) H') (hd : ∀ σ' H', Pv z.cps.toList.length σ' H' → tz D σ' H') : tSeq (tFor (iStr te) (gName j) tu) tz D σ H :=
  s_forS (D := { D with nx := tz D }) h Pv h0 hs hd
theorem g_part {a b c : Nat} {x : V} {p : Part} {Q : L2.St → Hp → Prop} (h : Dp K H x (pD p)) (q : Q (((σ.set a (some (.str p.1))).set b (some (oV p.2.1))).set c (some (oV p.2.2))) H) :
    gTup K 3 (gCons (gName a) (gCons (gName b) (gCons (gName c) gNil))) x σ H Q := by
  obtain ⟨t, rfl, sq⟩ := pD_inv h
  exact ⟨t, _, rfl, sq, rfl, _, _, rfl, _, _, rfl, _, _, rfl, rfl, q⟩
theorem dp_part {w : Wish} {xs : List V} {i : Nat} {x : V} (h : DpAll K H xs (w.map pD)) (hi : xs[i]? = some x) : ∃ p, w[i]? = some p ∧ Dp K H x (pD p) := by
  obtain ⟨d, h1, h2⟩ := h.get hi
  rw [List.getElem?_map] at h1
  obtain ⟨p, hp, rfl⟩ := Option.map_eq_some_iff.mp h1
  exact ⟨p, hp, h2⟩
theorem ev_all {bs : List Bool} (h : EvL te σ H (bs.map V.bl)) : Ev (tCB (rAll K) (tCons te tNil)) σ H (.bl (bs.all id)) := fun H1 e Q q =>
  h H1 e _ fun p H2 _ e2 h2 => ⟨p, bs, rfl, sq_of h2, q H2 e2⟩
theorem el_is {xs ys : List V} (h : EvL te σ H xs) (e : xs = ys) : EvL te σ H ys := e ▸ h
theorem et_yes : EvT tYes σ H true := fun H1 _ Q q => q H1 (Ex.refl H1)
theorem given_all (n : Nat) (b : Bool) : given n (fun _ => true) (fun _ => .bl b) = (List.replicate n b).map V.bl := by
  induction n with
  | zero => rfl
  | succ n ih => rw [given_yes rfl, ih, List.replicate_succ', List.map_append]; rfl
theorem sq_len (x : Str) : (x.length : Int) = (x.cps.toList.length : Int) := by rw [Array.length_toList] <;> rfl
end
section
variable {P : Program} {w : World} {K : PySem.W.Frag} {mg : Str → Option Value} {base : Heap} {CS CP f : Addr} {fd : FuncData}
def rWhole : List V → Hp → V → Prop := fun vs _ r => ∃ i, vs = [.int i] ∧ r = .bl true
theorem ok_is_whole (T : Txt K mg CS CP) (F : FnP K "is_whole" "is_whole" s_is_whole f fd) : FnOk P w K mg base CX0 1 f fd ["thing"] (spR rWhole) := by
  refine F.ok sc_is_whole (fun vs H Q E h => ?_) (fun cdv A outer s H vs Q E hr h => ?_)
  · obtain ⟨r, ⟨i, rfl, _⟩, _⟩ := h; rfl
  obtain ⟨r, ⟨i, rfl, rfl⟩, q⟩ := h
  refine ⟨_, PSs.nox (pss_one (ps_ret (pe_and (pe_callB call_isi (by rfl) T.n_isinstance bt_isinstance (pa_cons (pv 0) (pa_cons (pe_bltn (v := .ty "int") (by rfl) T.n_int bt_int rfl) pa_nil))) (pe_one (pe_not (pe_callB call_isi (by rfl) T.n_isinstance bt_isinstance (pa_cons (pv 0) (pa_cons (pe_bltn (v := .ty "bool") (by rfl) T.n_bool bt_bool rfl) pa_nil)))))))), ?_⟩
  exact s_ret (ev_andV (ev_isi (b := true) (ev_var rfl) (fun _ _ => ty_int) (by decide)) fun _ => ev_notV (ev_isi (b := false) (ev_var rfl) (fun _ _ => ty_int) (by decide))) fun H1 e => q H1 e
def rCount : List V → Hp → V → Prop := fun vs _ r => ∃ i, vs = [.int i] ∧ r = .bl (decide (0 ≤ i))
theorem ok_is_count (T : Txt K mg CS CP) (F : FnP K "is_count" "is_count" s_is_count f fd) : FnOk P w K mg base CX0 1 f fd ["thing"] (spR rCount) := by
  refine F.ok sc_is_count (fun vs H Q E h => ?_) (fun cdv A outer s H vs Q E hr h => ?_)
  · obtain ⟨r, ⟨i, rfl, _⟩, _⟩ := h; rfl
  obtain ⟨r, ⟨i, rfl, rfl⟩, q⟩ := h
  refine ⟨_, PSs.nox (pss_one (ps_ret (pe_and (pe_callB call_isi (by rfl) T.n_isinstance bt_isinstance (pa_cons (pv 0) (pa_cons (pe_bltn (v := .ty "int") (by rfl) T.n_int bt_int rfl) pa_nil))) (pe_and (pe_not (pe_callB call_isi (by rfl) T.n_isinstance bt_isinstance (pa_cons (pv 0) (pa_cons (pe_bltn (v := .ty "bool") (by rfl) T.n_bool bt_bool rfl) pa_nil)))) (pe_one (pe_cmpR op_ge (pv 0) pe_int (nomark _))))))), ?_⟩
  exact s_ret (ev_andV (ev_isi (b := true) (ev_var rfl) (fun _ _ => ty_int) (by decide)) fun _ => ev_andV (ev_notV (ev_isi (b := false) (ev_var rfl) (fun _ _ => ty_int) (by decide))) fun _ => ev_op (ev_var rfl) ev_c rv_I0) fun H1 e => q H1 e
theorem small_in {c : Nat} (h : small c) : c ∈ lettersS.cps.toList := by
  have e : lettersS.cps.toList = (List.range 26).map (· + 97) := by decide +kernel
  rw [e]
  exact List.mem_map.mpr ⟨c - 97, List.mem_range.mpr (by have := h.1; have := h.2; omega), by have := h.1; omega⟩
def rName : List V → Hp → V → Prop := fun vs _ r => ∃ x, vs = [.str x] ∧ NameOk x ∧ r = .bl true
theorem ok_is_field (T : Txt K mg CS CP) (F : FnP K "is_field" "is_field" s_is_field f fd) : FnOk P w K mg base CX0 1 f fd ["thing"] (spR rName) := by
  refine F.ok sc_is_field (fun vs H Q E h => ?_) (fun cdv A outer s H vs Q E hr h => ?_)
  · obtain ⟨r, ⟨i, rfl, _⟩, _⟩ := h; rfl
  obtain ⟨r, ⟨x, rfl, ok, rfl⟩, q⟩ := h
  refine ⟨_, PSs.nox (pss_cons (ps_if (PW.pt (pw_or (pt_not (pt_val (pe_callB call_isi (by rfl) T.n_isinstance bt_isinstance (pa_cons (pv 0) (pa_cons (pe_bltn (v := .ty "str") (by rfl) T.n_str bt_str rfl) pa_nil))))) (pw_or (pt_cmpR op_eq (pv 0) pe_str (nomark _)) (pw_or1 (pt_cmpR op_gt (pe_callB call_len_str (by rfl) T.n_len bt_len (pa_cons (pv 0) pa_nil)) (pe_gi T.gLONGEST_wishes) (nomark _)))))) (pss_one (ps_ret pe_bl)) pss_nil)
      (pss_cons (ps_for PassesOwn.never rfl (pi_str (pv 0)) (pg_name (i := 1) sc_is_field.nd rfl (Or.inl rfl)) (pss_one (ps_if (pt_cmpR op_notInS (pv 1) (pe_gs T.gLETTERS) (by rfl)) (pss_one (ps_ret pe_bl)) pss_nil)))
      (pss_one (ps_ret pe_bl)))), ?_⟩
  have n0 : decide (V.str x = V.str "") = false := decide_eq_false fun e => by
    cases e
    exact absurd ok.1 (by decide)
  have n1 : decide ((8 : Int) < (x.length : Int)) = false := decide_eq_false (by rw [sq_len]; have := ok.2.1; omega)
  refine q_when (b := false) (et_is (et_or (et_not (et_B (ev_isi (b := true) (ev_var rfl) (fun _ _ => ty_str) (by decide)))) fun _ => et_or (et_test (ev_op (ev_var rfl) ev_c (rv_eq rfl))) fun _ => et_test (ev_op (ev_lenS (ev_var rfl) (by have := ok.2.1; have := sq_len x; omega)) ev_c rv_I0)) (by rw [n0, n1]; rfl)) (fun h => by cases h) fun _ H1 e1 => ?_
  refine q_forS (ev_var rfl) (fun _ σ' H' => (∃ o, σ' = [some (.str x), o]) ∧ Ex H H') (fun H2 e2 => ⟨⟨_, rfl⟩, e1.trans e2⟩) (fun i c σ' H' hi p => ?_) fun σ' H' p => ?_
  · obtain ⟨⟨o, rfl⟩, e2⟩ := p
    have hc : c ∈ lettersS.cps.toList := small_in (ok.2.2 c (List.mem_of_getElem? hi))
    refine s_when (b := false) (et_is (et_test (ev_op (ev_var rfl) ev_c rv_ninS)) (by rw [decide_eq_true hc]; rfl)) (fun h => by cases h) fun _ H3 e3 => ⟨⟨_, rfl⟩, e2.trans e3⟩
  · obtain ⟨⟨o, rfl⟩, e2⟩ := p
    exact s_ret ev_c fun H3 e3 => q H3 (e2.trans e3)
theorem ok_is_name (T : Txt K mg CS CP) (F : FnP K "is_name" "is_name" s_is_name f fd) : FnOk P w K mg base CX0 1 f fd ["thing"] (spR rName) := by
  refine F.ok sc_is_name (fun vs H Q E h => ?_) (fun cdv A outer s H vs Q E hr h => ?_)
  · obtain ⟨r, ⟨i, rfl, _⟩, _⟩ := h; rfl
  obtain ⟨r, ⟨x, rfl, ok, rfl⟩, q⟩ := h
  refine ⟨_, PSs.nox (pss_cons (ps_if (PW.pt (pw_or (pt_not (pt_val (pe_callB call_isi (by rfl) T.n_isinstance bt_isinstance (pa_cons (pv 0) (pa_cons (pe_bltn (v := .ty "str") (by rfl) T.n_str bt_str rfl) pa_nil))))) (pw_or1 (pt_not (pt_chain op_le op_le pe_int (pe_callB call_len_str (by rfl) T.n_len bt_len (pa_cons (pv 0) pa_nil)) pe_int))))) (pss_one (ps_ret pe_bl)) pss_nil)
      (pss_one (ps_ret (pe_callB (cr_all rfl) (by rfl) T.n_all bt_all (pa_cons (pe_lc (own := [("sign", 1)]) (g := gName 1) rfl sc_is_name.nd (pi_str (pv 0)) (blkOk_by (own := [("sign", 1)]) (N := ["thing", "sign"]) (sc := defScope s_is_name) (by decide +kernel)) (fun _ _ _ _ _ => pg_name (i := 1) sc_is_name.nd rfl (Or.inl rfl)) (fun _ _ _ _ _ => pts_nil) (fun _ _ _ _ _ => (pe_cmpR op_inS (pv 1) (pe_gs T.gSMALL) (by rfl)))) pa_nil))))), ?_⟩
  have n1 : decide ((1 : Int) ≤ (x.length : Int)) = true := decide_eq_true (by rw [sq_len]; have := ok.1; omega)
  have n2 : decide ((x.length : Int) ≤ 8) = true := decide_eq_true (by rw [sq_len]; have := ok.2.1; omega)
  refine q_when (b := false) (et_is (et_or (et_not (et_B (ev_isi (b := true) (ev_var rfl) (fun _ _ => ty_str) (by decide)))) fun _ => et_not (et_test (ev_chain ev_c (ev_lenS (ev_var rfl) (by have := ok.2.1; have := sq_len x; omega)) ev_c rv_I0 rv_I0))) (by rw [n1, n2]; rfl)) (fun h => by cases h) fun _ H1 e1 => ?_
  refine s_ret (ev_all (bs := List.replicate x.cps.toList.length true) (el_is (el_lcS (fun _ => true) (fun _ => .bl true) (ev_var rfl) (by have := ok.2.1; omega) (fun _ => rfl) (fun i c H2 e2 hi => et_yes) (fun i c H2 e2 hi _ => ?_)) (given_all _ _))) fun H2 e2 => ?_
  · have hc : c ∈ lettersS.cps.toList := small_in (ok.2.2 c (List.mem_of_getElem? hi))
    exact ev_is (ev_op (ev_var rfl) (fun H1 _ Q q => q H1 (Ex.refl H1)) rv_inS) (by rw [decide_eq_true hc])
  · rw [show (List.replicate x.cps.toList.length true).all id = true from by simp]
    exact q H2 (e1.trans e2)
end
end K33
/-! K6: the looks: is_span .. look_wishes. -/
namespace K33
open PySem PySem.Spec PyProof.Rows L2 Evl
theorem ev_cU {R : List V → Hp → V → Prop} {te : TE} {E : XK} {σ : L2.St} {H : Hp} {xs : List V} {z : V} (h : EvU te σ H xs) (hs : ∀ p H1, H1 p = some (.tup xs) → Ex H H1 → R [.ref p] H1 z) : Ev (tCall (spR R) [] E (tCons te tNil)) σ H z := fun H1 e Q q =>
  h H1 e _ fun p H2 _ e2 h2 => ⟨z, hs p H2 h2 (e.trans e2), fun H3 e3 => q H3 (e2.trans e3)⟩
theorem drop_of {α : Type} {l : List α} {i : Nat} {x : α} (h : l[i]? = some x) : l.drop i = x :: l.drop (i + 1) := by
  obtain ⟨h1, h2⟩ := List.getElem?_eq_some_iff.mp h
  rw [List.drop_eq_getElem_cons h1, h2]
theorem take_of {α : Type} {l : List α} {i : Nat} {x : α} (h : l[i]? = some x) : l.take (i + 1) = l.take i ++ [x] := by
  obtain ⟨h1, h2⟩ := List.getElem?_eq_some_iff.mp h
  rw [← List.take_append_getElem h1, h2]
section
variable {P : Program} {w : World} {K : PySem.W.Frag} {mg : Str → Option Value} {base : Heap} {CS CP f : Addr} {fd : FuncData}
def rSpan (K : PySem.W.Frag) : List V → Hp → V → Prop := fun vs H r => ∃ a lo hi, vs = [.ref a] ∧ SqT K H a [oV lo, oV hi] ∧ (∀ l h, lo = some l → hi = some h → l ≤ h) ∧ r = .bl true
theorem ok_is_span (T : Txt K mg CS CP) (c_is_whole : Cal P w K mg base "is_whole" 1 ["thing"] (spR rWhole)) (F : FnP K "is_span" "is_span" s_is_span f fd) : FnOk P w K mg base CX0 2 f fd ["thing"] (spR (rSpan K)) := by
  refine F.ok sc_is_span (fun vs H Q E h => ?_) (fun cdv A outer s H vs Q E hr h => ?_)
  · obtain ⟨r, ⟨a, lo, hi, rfl, _⟩, _⟩ := h; rfl
  obtain ⟨r, ⟨a, lo, hi, rfl, sq, le, rfl⟩, q⟩ := h
  refine ⟨_, PSs.nox (pss_cons (ps_if (PW.pt (pw_or (pt_not (pt_val (pe_callB call_isi (by rfl) T.n_isinstance bt_isinstance (pa_cons (pv 0) (pa_cons (pe_bltn (v := .ty "tuple") (by rfl) T.n_tuple bt_tuple rfl) pa_nil))))) (pw_or1 (pt_cmpR op_ne (pe_callB call_len_seq (by rfl) T.n_len bt_len (pa_cons (pv 0) pa_nil)) pe_int (nomark _))))) (pss_one (ps_ret pe_bl)) pss_nil)
      (pss_cons (ps_for PassesOwn.never rfl (pi_tup (pv 0)) (pg_name (i := 1) sc_is_span.nd rfl (Or.inl rfl)) (pss_one (ps_if (PW.pt (pw_and (pt_cmpR op_notN1 (pv 1) pe_non (nomark _)) (pw_and1 (pt_not (pt_val (pe_c c_is_whole hr (by decide) rfl (pa_cons (pv 1) pa_nil))))))) (pss_one (ps_ret pe_bl)) pss_nil)))
      (pss_cons (ps_asg (pv 0) (pg_tup rfl (pgs_cons (pg_name (i := 2) sc_is_span.nd rfl (Or.inl rfl)) (pgs_cons (pg_name (i := 3) sc_is_span.nd rfl (Or.inl rfl)) pgs_nil))))
      (pss_one (ps_ret (pe_or (pe_cmpR op_isN1 (pv 2) pe_non (nomark _)) (pe_or (pe_cmpR op_isN1 (pv 3) pe_non (nomark _)) (pe_one (pe_cmpR op_le (pv 2) (pv 3) (nomark _)))))))))), ?_⟩
  refine q_when (b := false) (et_or (et_not (et_B (ev_isi (b := true) (ev_var rfl) (fun _ e => ty_tup (ex_t e sq)) (by decide)))) fun _ => et_test (ev_op (ev_lenT (ev_var rfl) sq) ev_c (rv_ne rfl))) (fun h => by cases h) fun _ H1 e1 => ?_
  refine q_forT (ev_var rfl) (ex_t e1 sq) (fun _ σ' H' => (∃ o, σ' = [some (.ref a), o, none, none]) ∧ Ex H H') (fun H2 e2 => ⟨⟨_, rfl⟩, e1.trans e2⟩) (fun i σ' H' _ p => ex_t p.2 sq) (fun i x σ' H' hi' p => ?_) fun σ' H' p => ?_
  · obtain ⟨⟨o, rfl⟩, e2⟩ := p
    have hx : ∃ o, x = oV o := by
      rcases List.mem_cons.mp (List.mem_of_getElem? hi') with e | h
      · exact ⟨_, e⟩
      · exact ⟨_, List.mem_singleton.mp h⟩
    obtain ⟨ox, rfl⟩ := hx
    refine s_when (b := !decide (oV ox = .non) && !true) (et_and (et_test (ev_op (ev_var rfl) ev_c rv_notN)) fun h => et_not (et_B (ev_c1 (ea_cons (ev_var rfl) ea_nil) fun H4 e4 => ?_))) (fun h => by simp at h) fun _ H3 e3 => ⟨⟨_, rfl⟩, e2.trans e3⟩
    cases ox with
    | none => simp [oV] at h
    | some n => exact ⟨n, rfl, rfl⟩
  · obtain ⟨⟨o, rfl⟩, e2⟩ := p
    refine ⟨_, rfl, ?_⟩
    refine ⟨a, _, rfl, ex_t e2 sq, rfl, _, _, rfl, _, _, rfl, rfl, ?_⟩
    dsimp only
    refine s_ret (v := .bl true) ?_ (fun H3 e3 => q H3 (e2.trans e3))
    cases lo with
    | none => exact ev_orV (a := true) (b := true) (ev_op (ev_var rfl) ev_c (rv_isN rfl)) (fun h => by cases h)
    | some l =>
      refine ev_orV (a := false) (b := true) (ev_op (ev_var rfl) ev_c (rv_isN rfl)) fun _ => ?_
      cases hi with
      | none => exact ev_orV (a := true) (b := true) (ev_op (ev_var rfl) ev_c (rv_isN rfl)) (fun h => by cases h)
      | some u => exact ev_orV (a := false) (b := true) (ev_op (ev_var rfl) ev_c (rv_isN rfl)) fun _ => ev_is (ev_op (ev_var rfl) (ev_var rfl) rv_I0) (by rw [decide_eq_true (le l u rfl rfl)])
def rParts (K : PySem.W.Frag) : List V → Hp → V → Prop := fun vs H r => ∃ v wi, vs = [v, .int 3] ∧ WA K H v wi ∧ WOk wi ∧ r = .bl true
theorem ok_are_parts (T : Txt K mg CS CP) (c_is_field : Cal P w K mg base "is_field" 1 ["thing"] (spR rName)) (F : FnP K "are_parts" "are_parts" s_are_parts f fd) : FnOk P w K mg base CX0 2 f fd ["thing", "size"] (spR (rParts K)) := by
  refine F.ok sc_are_parts (fun vs H Q E h => ?_) (fun cdv A outer s H vs Q E hr h => ?_)
  · obtain ⟨r, ⟨v, wi, rfl, _⟩, _⟩ := h; rfl
  obtain ⟨r, ⟨v, wi, rfl, wa, ok, rfl⟩, q⟩ := h
  obtain ⟨a, xs, rfl, sq, dp⟩ := wa.ref
  refine ⟨_, PSs.nox (pss_cons (ps_if (pt_not (pt_val (pe_callB call_isi (by rfl) T.n_isinstance bt_isinstance (pa_cons (pv 0) (pa_cons (pe_bltn (v := .ty "tuple") (by rfl) T.n_tuple bt_tuple rfl) pa_nil))))) (pss_one (ps_ret pe_bl)) pss_nil)
      (pss_cons (ps_set (i := 2) sc_are_parts.nd rfl (Or.inl rfl) pe_str)
      (pss_cons (ps_for PassesOwn.never rfl (pi_tup (pv 0)) (pg_name (i := 3) sc_are_parts.nd rfl (Or.inl rfl)) (pss_cons (ps_if (PW.pt (pw_or (pt_not (pt_val (pe_callB call_isi (by rfl) T.n_isinstance bt_isinstance (pa_cons (pv 3) (pa_cons (pe_bltn (v := .ty "tuple") (by rfl) T.n_tuple bt_tuple rfl) pa_nil))))) (pw_or1 (pt_cmpR op_ne (pe_callB call_len_seq (by rfl) T.n_len bt_len (pa_cons (pv 3) pa_nil)) (pv 1) (nomark _))))) (pss_one (ps_ret pe_bl)) pss_nil)
      (pss_cons (ps_if (PW.pt (pw_or (pt_not (pt_val (pe_c c_is_field hr (by decide) rfl (pa_cons (pe_ix ix_tup (pv 3) pe_int (fun _ _ => rfl)) pa_nil)))) (pw_or1 (pt_cmpR op_le_str (pe_ix ix_tup (pv 3) pe_int (fun _ _ => rfl)) (pv 2) (nomark _))))) (pss_one (ps_ret pe_bl)) pss_nil)
      (pss_one (ps_set (i := 2) sc_are_parts.nd rfl (Or.inl rfl) (pe_ix ix_tup (pv 3) pe_int (fun _ _ => rfl)))))))
      (pss_one (ps_ret pe_bl))))), ?_⟩
  refine q_when (b := false) (et_not (et_B (ev_isi (b := true) (ev_var rfl) (fun _ e => ty_tup (ex_t e sq)) (by decide)))) (fun h => by cases h) fun _ H1 e1 => ?_
  refine q_asg ev_c fun H2 e2 => ?_
  refine q_forT (ev_var rfl) (ex_t (e1.trans e2) sq) (fun i σ' H' => (∃ (l : Str) (o : Option V), σ' = [some (.ref a), some (.int 3), some (.str l), o] ∧ ∀ p ∈ wi.drop i, l.cps.toList < p.1.cps.toList) ∧ Ex H H')
    (fun H3 e3 => ⟨⟨_, _, rfl, fun p hp => ?_⟩, (e1.trans e2).trans e3⟩) (fun i σ' H' _ p => ex_t p.2 sq) (fun i x σ' H' hi p => ?_) fun σ' H' p => ?_
  · have h1 := (ok.fld p hp).1
    show [] < p.1.cps.toList
    cases e : p.1.cps.toList with
    | nil => rw [e] at h1; cases h1
    | cons c r => exact List.nil_lt_cons _ _
  · obtain ⟨⟨l, o, rfl, hl⟩, e3⟩ := p
    obtain ⟨pt, hp, hd⟩ := dp_part dp hi
    have hd' := drop_of hp
    obtain ⟨t, rfl, st⟩ := pD_inv (hd.ex e3)
    have lt : l.cps.toList < pt.1.cps.toList := hl pt (by rw [hd']; exact List.mem_cons_self ..)
    have ok1 : NameOk pt.1 := ok.fld pt (List.mem_of_getElem? hp)
    refine q_when (b := false) (et_or (et_not (et_B (ev_isi (b := true) (ev_var rfl) (fun _ e => ty_tup (ex_t e st)) (by decide)))) fun _ => et_test (ev_op (ev_lenT (ev_var rfl) st) (ev_var rfl) (rv_ne rfl))) (fun h => by cases h) fun _ H4 e4 => ?_
    have st4 := ex_t e4 st
    have ea : ∀ {H5 : Hp} (_ : Ex H4 H5) (σ2 : L2.St), σ2[3]? = some (some (.ref t)) → Ev (tOp (rIxT K) (tVar 3) (tC (.int 0))) σ2 H5 (.str pt.1) := fun e5 σ2 h => ev_op (ev_var h) ev_c (rv_ixT (ex_t e5 st4) rfl)
    refine q_when (b := false) (et_or (a := false) (b := false) (et_not (et_B (ev_c1 (z := .bl true) (ea_cons (ea (Ex.refl _) _ rfl) ea_nil) fun H5 e5 => ⟨_, rfl, ok1, rfl⟩))) fun _ => et_test (ev_op (x := .str pt.1) (y := .str l) (ea (Ex.refl _) _ rfl) (ev_var rfl) (fun H5 e5 Q' q' => ⟨pt.1, l, rfl, rfl, by rw [decide_eq_true lt]; exact q' H5 (Ex.refl H5)⟩))) (fun h => by cases h) fun _ H5 e5 => ?_
    refine s_asg (ea e5 _ rfl) fun H6 e6 => ⟨⟨pt.1, _, rfl, fun p hp2 => ?_⟩, ((e3.trans e4).trans e5).trans e6⟩
    have pw := ok.asc.drop (i := i)
    rw [hd'] at pw
    exact (List.pairwise_cons.mp pw).1 p hp2
  · obtain ⟨⟨l, o, rfl, hl⟩, e3⟩ := p
    exact s_ret ev_c fun H4 e4 => q H4 (e3.trans e4)
def rWish (K : PySem.W.Frag) : List V → Hp → V → Prop := fun vs H r => ∃ v wi, vs = [v] ∧ WA K H v wi ∧ WOk wi ∧ r = .bl true
theorem ok_is_wish (T : Txt K mg CS CP) (c_is_span : Cal P w K mg base "is_span" 2 ["thing"] (spR (rSpan K))) (c_are_parts : Cal P w K mg base "are_parts" 2 ["thing", "size"] (spR (rParts K))) (F : FnP K "is_wish" "is_wish" s_is_wish f fd) : FnOk P w K mg base CX0 3 f fd ["thing"] (spR (rWish K)) := by
  refine F.ok sc_is_wish (fun vs H Q E h => ?_) (fun cdv A outer s H vs Q E hr h => ?_)
  · obtain ⟨r, ⟨v, wi, rfl, _⟩, _⟩ := h; rfl
  obtain ⟨r, ⟨v, wi, rfl, wa, ok, rfl⟩, q⟩ := h
  obtain ⟨a, xs, rfl, sq, dp⟩ := wa.ref
  refine ⟨_, PSs.nox (pss_cons (ps_if (pt_not (pt_val (pe_c c_are_parts hr (by decide) rfl (pa_cons (pv 0) (pa_cons pe_int pa_nil))))) (pss_one (ps_ret pe_bl)) pss_nil)
      (pss_cons (ps_for PassesOwn.never rfl (pi_tup (pv 0)) (pg_tup rfl (pgs_cons (pg_name (i := 1) sc_is_wish.nd rfl (Or.inl rfl)) (pgs_cons (pg_name (i := 2) sc_is_wish.nd rfl (Or.inl rfl)) (pgs_cons (pg_name (i := 3) sc_is_wish.nd rfl (Or.inl rfl)) pgs_nil)))) (pss_one (ps_if (pt_not (pt_val (pe_c c_is_span hr (by decide) rfl (pa_cons (pe_tup (pa_cons (pv 2) (pa_cons (pv 3) pa_nil))) pa_nil)))) (pss_one (ps_ret pe_bl)) pss_nil)))
      (pss_one (ps_ret pe_bl)))), ?_⟩
  refine q_when (b := false) (et_not (et_B (ev_c1 (z := .bl true) (ea_cons (ev_var rfl) (ea_cons ev_c ea_nil)) fun H4 e4 => ⟨_, wi, rfl, wa.ex e4, ok, rfl⟩))) (fun h => by cases h) fun _ H1 e1 => ?_
  refine q_forT (ev_var rfl) (ex_t e1 sq) (fun i σ' H' => (∃ x y z, σ' = [some (.ref a), x, y, z]) ∧ Ex H H') (fun H3 e3 => ⟨⟨_, _, _, rfl⟩, e1.trans e3⟩) (fun i σ' H' _ p => ex_t p.2 sq) (fun i x σ' H' hi p => ?_) fun σ' H' p => ?_
  · obtain ⟨⟨x1, y1, z1, rfl⟩, e3⟩ := p
    obtain ⟨pt, hp, hd⟩ := dp_part dp hi
    refine g_part (hd.ex e3) ?_
    refine s_when (b := false) (et_not (et_B (ev_cU (z := .bl true) (eu_tup (ea_cons (ev_var rfl) (ea_cons (ev_var rfl) ea_nil)) (by show 2 ≤ 100000; decide)) fun t H5 h5 e5 => ⟨t, pt.2.1, pt.2.2, rfl, st_of h5, ok.spn pt (List.mem_of_getElem? hp), rfl⟩))) (fun h => by cases h) fun _ H5 e5 => ⟨⟨_, _, _, rfl⟩, e3.trans e5⟩
  · obtain ⟨⟨x1, y1, z1, rfl⟩, e3⟩ := p
    exact s_ret ev_c fun H4 e4 => q H4 (e3.trans e4)
def wantS : Str := "want"
def unwantS : Str := "unwant"
def rLetter (K : PySem.W.Frag) : List V → Hp → V → Prop := fun vs H r => ∃ a s x wi, vs = [.ref a] ∧ SqT K H a [.str s, x] ∧ (s = wantS ∨ s = unwantS) ∧ WA K H x wi ∧ WOk wi ∧ r = .bl true
theorem ok_is_letter (T : Txt K mg CS CP) (c_is_wish : Cal P w K mg base "is_wish" 3 ["thing"] (spR (rWish K))) (F : FnP K "is_letter" "is_letter" s_is_letter f fd) : FnOk P w K mg base CX0 4 f fd ["thing"] (spR (rLetter K)) := by
  refine F.ok sc_is_letter (fun vs H Q E h => ?_) (fun cdv A outer s H vs Q E hr h => ?_)
  · obtain ⟨r, ⟨a, s, x, wi, rfl, _⟩, _⟩ := h; rfl
  obtain ⟨r, ⟨a, s, x, wi, rfl, sq, hs, wa, ok, rfl⟩, q⟩ := h
  refine ⟨_, PSs.nox (pss_cons (ps_if (PW.pt (pw_or (pt_not (pt_val (pe_callB call_isi (by rfl) T.n_isinstance bt_isinstance (pa_cons (pv 0) (pa_cons (pe_bltn (v := .ty "tuple") (by rfl) T.n_tuple bt_tuple rfl) pa_nil))))) (pw_or (pt_cmpR op_lt (pe_callB call_len_seq (by rfl) T.n_len bt_len (pa_cons (pv 0) pa_nil)) pe_int (nomark _)) (pw_or1 (pt_not (pt_val (pe_callB call_isi (by rfl) T.n_isinstance bt_isinstance (pa_cons (pe_ix ix_tup (pv 0) pe_int (fun _ _ => rfl)) (pa_cons (pe_bltn (v := .ty "str") (by rfl) T.n_str bt_str rfl) pa_nil))))))))) (pss_one (ps_ret pe_bl)) pss_nil)
      (pss_cons (ps_if (PW.pt (pw_or (pt_cmpR op_eq (pe_ix ix_tup (pv 0) pe_int (fun _ _ => rfl)) pe_str (nomark _)) (pw_or1 (pt_cmpR op_eq (pe_ix ix_tup (pv 0) pe_int (fun _ _ => rfl)) pe_str (nomark _))))) (pss_one (ps_ret (pe_and (pe_cmpR op_eq (pe_callB call_len_seq (by rfl) T.n_len bt_len (pa_cons (pv 0) pa_nil)) pe_int (nomark _)) (pe_one (pe_c c_is_wish hr (by decide) rfl (pa_cons (pe_ix ix_tup (pv 0) pe_int (fun _ _ => rfl)) pa_nil)))))) pss_nil)
      pss_never)), ?_⟩
  have e0 : ∀ {H5 : Hp} (_ : Ex H H5), Ev (tOp (rIxT K) (tVar 0) (tC (.int 0))) [some (.ref a)] H5 (.str s) := fun e5 => ev_op (ev_var rfl) ev_c (rv_ixT (ex_t e5 sq) rfl)
  have e1 : ∀ {H5 : Hp} (_ : Ex H H5), Ev (tOp (rIxT K) (tVar 0) (tC (.int 1))) [some (.ref a)] H5 x := fun e5 => ev_op (ev_var rfl) ev_c (rv_ixT (ex_t e5 sq) rfl)
  refine q_when (b := false) (et_or (a := false) (b := false) (et_not (et_B (ev_isi (b := true) (ev_var rfl) (fun _ e => ty_tup (ex_t e sq)) (by decide)))) fun _ => et_or (a := false) (b := false) (et_test (ev_op (ev_lenT (ev_var rfl) sq) ev_c rv_I0)) fun _ => et_not (et_B (ev_isi (b := true) (e0 (Ex.refl _)) (fun _ _ => ty_str) (by decide)))) (fun h => by cases h) fun _ H1 h1 => ?_
  refine q_when (b := true) (et_is (et_or (et_test (ev_op (e0 h1) ev_c (rv_eq rfl))) fun _ => et_test (ev_op (e0 h1) ev_c (rv_eq rfl))) ?_) (fun _ H2 h2 => ?_) (fun h => by cases h)
  · rcases hs with rfl | rfl
    · rfl
    · rfl
  · exact s_ret (v := .bl true) (ev_andV (a := true) (b := true) (ev_op (ev_lenT (ev_var rfl) (ex_t (h1.trans h2) sq)) ev_c (rv_eq rfl)) fun _ => ev_c1 (ea_cons (e1 (h1.trans h2)) ea_nil) fun H3 h3 => ⟨_, wi, rfl, wa.ex ((h1.trans h2).trans h3), ok, rfl⟩) fun H3 h3 => q H3 ((h1.trans h2).trans h3)
/-! ### what raises -/
def HolderOk (x : Str) : Prop := 1 ≤ x.cps.toList.length ∧ x.cps.toList.length ≤ 15 ∧ ∀ c ∈ x.cps.toList, c ∈ signsS.cps.toList
def rHolder : List V → Hp → V → Prop := fun vs _ r => ∃ x, vs = [.str x] ∧ HolderOk x ∧ r = .non
theorem ok_look_holder (T : Txt K mg CS CP) (F : FnP K "look_holder" "look_holder" s_look_holder f fd) : FnOk P w K mg base CX0 1 f fd ["holder"] (spR rHolder) := by
  refine F.ok sc_look_holder (fun vs H Q E h => ?_) (fun cdv A outer s H vs Q E hr h => ?_)
  · obtain ⟨r, ⟨i, rfl, _⟩, _⟩ := h; rfl
  obtain ⟨r, ⟨x, rfl, ok, rfl⟩, q⟩ := h
  refine ⟨_, PSs.nox (pss_cons (ps_if (PW.pt (pw_or (pt_not (pt_val (pe_callB call_isi (by rfl) T.n_isinstance bt_isinstance (pa_cons (pv 0) (pa_cons (pe_bltn (v := .ty "str") (by rfl) T.n_str bt_str rfl) pa_nil))))) (pw_or (pt_cmpR op_eq (pv 0) pe_str (nomark _)) (pw_or1 (pt_cmpR op_gt (pe_callB call_len_str (by rfl) T.n_len bt_len (pa_cons (pv 0) pa_nil)) (pe_gi T.gLONGEST_shelves) (nomark _)))))) pss_never pss_nil)
      (pss_one (ps_for PassesOwn.never rfl (pi_str (pv 0)) (pg_name (i := 1) sc_look_holder.nd rfl (Or.inl rfl)) (pss_one (ps_if (pt_cmpR op_notInS (pv 1) (pe_gs T.gSIGNS) (by rfl)) pss_never pss_nil))))), ?_⟩
  have n0 : decide (V.str x = V.str "") = false := decide_eq_false fun e => by
    cases e
    exact absurd ok.1 (by decide)
  have n1 : decide ((15 : Int) < (x.length : Int)) = false := decide_eq_false (by rw [sq_len]; have := ok.2.1; omega)
  refine q_when (b := false) (et_is (et_or (et_not (et_B (ev_isi (b := true) (ev_var rfl) (fun _ _ => ty_str) (by decide)))) fun _ => et_or (et_test (ev_op (ev_var rfl) ev_c (rv_eq rfl))) fun _ => et_test (ev_op (ev_lenS (ev_var rfl) (by have := ok.2.1; have := sq_len x; omega)) ev_c rv_I0)) (by rw [n0, n1]; rfl)) (fun h => by cases h) fun _ H1 e1 => ?_
  refine s_forS (ev_var rfl) (fun _ σ' H' => (∃ o, σ' = [some (.str x), o]) ∧ Ex H H') (fun H2 e2 => ⟨⟨_, rfl⟩, e1.trans e2⟩) (fun i c σ' H' hi p => ?_) fun σ' H' p => q H' p.2
  obtain ⟨⟨o, rfl⟩, e2⟩ := p
  have hc : c ∈ signsS.cps.toList := ok.2.2 c (List.mem_of_getElem? hi)
  refine s_when (b := false) (et_is (et_test (ev_op (ev_var rfl) ev_c rv_ninS)) (by rw [decide_eq_true hc]; rfl)) (fun h => by cases h) fun _ H3 e3 => ⟨⟨_, rfl⟩, e2.trans e3⟩
def rLookW (K : PySem.W.Frag) : List V → Hp → V → Prop := fun vs H r => ∃ a ws, vs = [.ref a] ∧ LA K H a ws ∧ AllOk ws ∧ r = .non
theorem ok_look_wishes (T : Txt K mg CS CP) (c_is_wish : Cal P w K mg base "is_wish" 3 ["thing"] (spR (rWish K))) (F : FnP K "look_wishes" "look_wishes" s_look_wishes f fd) : FnOk P w K mg base CX0 4 f fd ["thing"] (spR (rLookW K)) := by
  refine F.ok sc_look_wishes (fun vs H Q E h => ?_) (fun cdv A outer s H vs Q E hr h => ?_)
  · obtain ⟨r, ⟨i, ws, rfl, _⟩, _⟩ := h; rfl
  obtain ⟨r, ⟨a, ws, rfl, ⟨xs, sq, was⟩, ok, rfl⟩, q⟩ := h
  refine ⟨_, PSs.nox (pss_cons (ps_if (pt_not (pt_val (pe_callB call_isi (by rfl) T.n_isinstance bt_isinstance (pa_cons (pv 0) (pa_cons (pe_bltn (v := .ty "list") (by rfl) T.n_list bt_list rfl) pa_nil))))) pss_never pss_nil)
      (pss_one (ps_for PassesOwn.never rfl (pi_list (pv 0)) (pg_name (i := 1) sc_look_wishes.nd rfl (Or.inl rfl)) (pss_one (ps_if (pt_not (pt_val (pe_c c_is_wish hr (by decide) rfl (pa_cons (pv 1) pa_nil)))) pss_never pss_nil))))), ?_⟩
  refine q_when (b := false) (et_not (et_B (ev_isi (b := true) (ev_var rfl) (fun _ e => ty_lst (ex_l e sq)) (by decide)))) (fun h => by cases h) fun _ H1 e1 => ?_
  refine s_forL (ev_var rfl) (ex_l e1 sq) (fun _ σ' H' => (∃ o, σ' = [some (.ref a), o]) ∧ Ex H H') (fun H2 e2 => ⟨⟨_, rfl⟩, e1.trans e2⟩) (fun i σ' H' _ p => ex_l p.2 sq) (fun i x σ' H' hi p => ?_) fun σ' H' p => q H' p.2
  obtain ⟨⟨o, rfl⟩, e2⟩ := p
  obtain ⟨wi, hw, wa⟩ := was.get hi
  exact s_when (b := false) (et_not (et_B (ev_c1 (z := .bl true) (ea_cons (ev_var rfl) ea_nil) fun H4 e4 => ⟨_, wi, rfl, wa.ex (e2.trans e4), ok wi (List.mem_of_getElem? hw), rfl⟩))) (fun h => by cases h) fun _ H3 e3 => ⟨⟨_, rfl⟩, e2.trans e3⟩
end
end K33
/-! K7: what keeps data; covering, rank, unlike. -/
namespace L2
open PySem PySem.Spec PyProof.Rows Evl
/-- a list, a tuple, locked or not -/
def Hard : HO → Prop
  | .lst _ => True
  | .tup _ => True
  | .frz _ (.lst _) => True
  | .frz _ (.tup _) => True
  | _ => False
def Kept (H H' : Hp) : Prop := ∀ b o, H b = some o → Hard o → H' b = some o
section
variable {K : PySem.W.Frag} {H H' H2 : Hp}
theorem Kept.refl (H : Hp) : Kept H H := fun _ _ h _ => h
theorem Kept.trans (a : Kept H H') (b : Kept H' H2) : Kept H H2 := fun x o h q => b x o (a x o h q) q
theorem Kept.of (e : Ex H H') : Kept H H' := fun x o h _ => e x o h
theorem Kept.upd {d : Addr} {u o : HO} (h : H d = some u) (s : ¬ Hard u) : Kept H (L2.upd H d o) := fun x v hx hv => by
  by_cases e : x = d
  · subst e; rw [h] at hx; cases hx; exact absurd hv s
  · rw [upd_ne e]; exact hx
theorem Kept.sl (k : Kept H H') {a : Addr} {xs : List V} (h : SqL K H a xs) : SqL K H' a xs := by
  rcases h with (h | ⟨o, h⟩) | h
  · exact .inl (.inl (k _ _ h trivial))
  · exact .inl (.inr ⟨o, k _ _ h trivial⟩)
  · exact .inr h
theorem Kept.st (k : Kept H H') {a : Addr} {xs : List V} (h : SqT K H a xs) : SqT K H' a xs := by
  rcases h with (h | ⟨o, h⟩) | h
  · exact .inl (.inl (k _ _ h trivial))
  · exact .inl (.inr ⟨o, k _ _ h trivial⟩)
  · exact .inr h
theorem Kept.dp (k : Kept H H') {v : V} {d : PyData} (h : Dp K H v d) : Dp K H' v d := Dp.mono (fun _ _ => k.sl) (fun _ _ => k.st) h
theorem Kept.dps (k : Kept H H') {v : List V} {d : List PyData} (h : DpAll K H v d) : DpAll K H' v d := DpAll.mono (fun _ _ => k.sl) (fun _ _ => k.st) h
end
end L2
namespace K33
open PySem PySem.Spec PyProof.Rows L2 Evl
theorem Kept.la {K : PySem.W.Frag} {H H' : Hp} (k : L2.Kept H H') {a : Addr} {ws : List Wish} (h : LA K H a ws) : LA K H' a ws := let ⟨xs, h1, h2⟩ := h; ⟨xs, k.sl h1, k.dps h2⟩
/-! ### covering -/
/-- a dict of spans by fields -/
def CovD (K : PySem.W.Frag) (H : Hp) (w : Wish) (kvs : List (Key × V)) : Prop := ∀ f : Str, (fnd w f = none → valV kvs (.inr f) = none) ∧ ∀ s, fnd w f = some s → ∃ t, valV kvs (.inr f) = some (.ref t) ∧ SqT K H t [oV s.1, oV s.2]
theorem fnd_nil (f : Str) : fnd [] f = none := rfl
theorem fnd_snoc (w : Wish) (p : Part) (f : Str) : fnd (w ++ [p]) f = match fnd w f with
    | some s => some s
    | none => if p.1 = f then some p.2 else none := by
  unfold fnd
  rw [List.find?_append]
  cases h : w.find? fun p => decide (p.1 = f) with
  | some q => simp
  | none => by_cases e : p.1 = f <;> simp [e]
theorem CovD.mono {K : PySem.W.Frag} {H H' : Hp} {w : Wish} {kvs : List (Key × V)} (k : Kept H H') (c : CovD K H w kvs) : CovD K H' w kvs := fun f => ⟨(c f).1, fun s h => let ⟨t, h1, h2⟩ := (c f).2 s h; ⟨t, h1, k.st h2⟩⟩
theorem CovD.put {K : PySem.W.Frag} {H : Hp} {w : Wish} {p : Part} {kvs : List (Key × V)} {t : Addr} (c : CovD K H w kvs) (nw : fnd w p.1 = none) (ht : SqT K H t [oV p.2.1, oV p.2.2]) : CovD K H (w ++ [p]) (putK kvs (.inr p.1) (.ref t)) := fun f => by
  have inj : ∀ {x y : Str}, (Sum.inr x : Key) = Sum.inr y ↔ x = y := ⟨fun e => Sum.inr.inj e, fun e => congrArg _ e⟩
  rw [fnd_snoc, valV_put]
  by_cases e : p.1 = f
  · subst e
    rw [nw, if_pos rfl, if_pos rfl]
    exact ⟨fun h => (nomatch h), fun s h => ⟨t, rfl, by cases h; exact ht⟩⟩
  · have e' : ¬ (Sum.inr f : Key) = Sum.inr p.1 := fun h => e (inj.mp h).symm
    rw [if_neg e', if_neg e]
    cases h : fnd w f with
    | none => exact ⟨fun _ => (c f).1 h, fun s hs => by cases hs⟩
    | some s => exact ⟨fun hs => (by cases hs), fun s' hs => by cases hs; exact (c f).2 s h⟩
theorem fnd_take {w : Wish} (h : w.Pairwise fun p q => p.1.cps.toList < q.1.cps.toList) {i : Nat} {p : Part} (hp : w[i]? = some p) : fnd (w.take i) p.1 = none := by
  cases e : fnd (w.take i) p.1 with
  | none => rfl
  | some s =>
    have hm := fnd_mem e
    have pw : (w.take i ++ w.drop i).Pairwise fun p q => p.1.cps.toList < q.1.cps.toList := by rw [List.take_append_drop]; exact h
    have := (List.pairwise_append.mp pw).2.2 _ hm p (by rw [drop_of hp]; exact List.mem_cons_self ..)
    exact absurd this (List.lt_irrefl _)
section
variable {σ : L2.St} {H : Hp}
theorem et_lo {i j : Nat} {lo le : Option Int} (h1 : σ[i]? = some (some (oV lo))) (h2 : σ[j]? = some (some (oV le))) :
    EvT (tAnd (tTest (tOp rNotN (tVar i) (tC .non))) (tOr (tTest (tOp rIsN (tVar j) (tC .non))) (tTest (tOp (rI0 fun i j => .bl (decide (i < j))) (tVar j) (tVar i))))) σ H (!loOk lo le) := by
  refine et_is (et_and (et_test (ev_op (ev_var h1) ev_c rv_notN)) (b := !loOk lo le) fun hl => ?_) ?_
  · cases lo with
    | none => simp [oV] at hl
    | some l =>
      cases le with
      | none => exact et_or (a := true) (b := true) (et_test (ev_op (ev_var h2) ev_c (rv_isN rfl))) (fun h => by cases h)
      | some m => exact et_is (et_or (a := false) (et_test (ev_op (ev_var h2) ev_c (rv_isN rfl))) fun _ => et_test (ev_op (ev_var h2) (ev_var h1) rv_I0)) (by simp only [loOk, Bool.false_or]; by_cases q : l ≤ m <;> simp [q] <;> omega)
  · cases lo with
    | none => simp [oV, loOk]
    | some l => simp [oV]
theorem et_hi {i j : Nat} {hi mo : Option Int} (h1 : σ[i]? = some (some (oV hi))) (h2 : σ[j]? = some (some (oV mo))) :
    EvT (tAnd (tTest (tOp rNotN (tVar i) (tC .non))) (tOr (tTest (tOp rIsN (tVar j) (tC .non))) (tTest (tOp (rI0 fun i j => .bl (decide (j < i))) (tVar j) (tVar i))))) σ H (!hiOk hi mo) := by
  refine et_is (et_and (et_test (ev_op (ev_var h1) ev_c rv_notN)) (b := !hiOk hi mo) fun hl => ?_) ?_
  · cases hi with
    | none => simp [oV] at hl
    | some l =>
      cases mo with
      | none => exact et_or (a := true) (b := true) (et_test (ev_op (ev_var h2) ev_c (rv_isN rfl))) (fun h => by cases h)
      | some m => exact et_is (et_or (a := false) (et_test (ev_op (ev_var h2) ev_c (rv_isN rfl))) fun _ => et_test (ev_op (ev_var h2) (ev_var h1) rv_I0)) (by simp only [hiOk, Bool.false_or]; by_cases q : m ≤ l <;> simp [q] <;> omega)
  · cases hi with
    | none => simp [oV, hiOk]
    | some l => simp [oV]
end
section
variable {P : Program} {w : World} {K : PySem.W.Frag} {mg : Str → Option Value} {base : Heap} {CS CP f : Addr} {fd : FuncData}
def rCov (K : PySem.W.Frag) : List V → Hp → V → Prop := fun vs H r => ∃ v1 v2 a b, vs = [v1, v2] ∧ WA K H v1 a ∧ WA K H v2 b ∧ WOk b ∧ r = .bl (cov a b)
theorem not_hard_dK {kvs : List (Key × V)} : ¬ Hard (.dK kvs) := fun h => h

theorem ok_does_cover (T : Txt K mg CS CP) (F : FnP K "does_cover" "does_cover" s_does_cover f fd) : FnOk P w K mg base CX0 1 f fd ["one", "other"] (spR (rCov K)) := by
  refine F.ok sc_does_cover (fun vs H Q E h => ?_) (fun cdv A outer s H vs Q E hr h => ?_)
  · obtain ⟨r, ⟨v1, v2, a, b, rfl, _⟩, _⟩ := h; rfl
  obtain ⟨r, ⟨v1, v2, w1, w2, rfl, wa1, wa2, ok, rfl⟩, q⟩ := h
  obtain ⟨a1, xs1, rfl, sq1, dp1⟩ := wa1.ref
  obtain ⟨a2, xs2, rfl, sq2, dp2⟩ := wa2.ref
  have hu := hu_of hr
  refine ⟨_, PSs.nox (pss_cons (ps_set (i := 2) sc_does_cover.nd rfl (Or.inl rfl) pe_dnewK)
      (pss_cons (ps_for PassesOwn.never rfl (pi_tup (pv 1)) (pg_tup rfl (pgs_cons (pg_name (i := 3) sc_does_cover.nd rfl (Or.inl rfl)) (pgs_cons (pg_name (i := 4) sc_does_cover.nd rfl (Or.inl rfl)) (pgs_cons (pg_name (i := 5) sc_does_cover.nd rfl (Or.inl rfl)) pgs_nil)))) (pss_one (ps_dput hu (pv 2) (pv 3) (pe_tup (pa_cons (pv 4) (pa_cons (pv 5) pa_nil))) rfl)))
      (pss_cons (ps_for PassesOwn.never rfl (pi_tup (pv 0)) (pg_tup rfl (pgs_cons (pg_name (i := 3) sc_does_cover.nd rfl (Or.inl rfl)) (pgs_cons (pg_name (i := 4) sc_does_cover.nd rfl (Or.inl rfl)) (pgs_cons (pg_name (i := 5) sc_does_cover.nd rfl (Or.inl rfl)) pgs_nil)))) (pss_cons (ps_if (pt_cmp (pc_dnotin hu (pv 3) (pv 2))) (pss_one (ps_ret pe_bl)) pss_nil)
      (pss_cons (ps_asg (pe_dget hu (pv 2) (pv 3) (fun _ _ => rfl)) (pg_tup rfl (pgs_cons (pg_name (i := 6) sc_does_cover.nd rfl (Or.inl rfl)) (pgs_cons (pg_name (i := 7) sc_does_cover.nd rfl (Or.inl rfl)) pgs_nil))))
      (pss_cons (ps_if (PW.pt (pw_and (pt_cmpR op_notN1 (pv 4) pe_non (nomark _)) (pw_and1 (PW.pt (pw_or (pt_cmpR op_isN1 (pv 6) pe_non (nomark _)) (pw_or1 (pt_cmpR op_lt (pv 6) (pv 4) (nomark _)))))))) (pss_one (ps_ret pe_bl)) pss_nil)
      (pss_one (ps_if (PW.pt (pw_and (pt_cmpR op_notN1 (pv 5) pe_non (nomark _)) (pw_and1 (PW.pt (pw_or (pt_cmpR op_isN1 (pv 7) pe_non (nomark _)) (pw_or1 (pt_cmpR op_gt (pv 7) (pv 5) (nomark _)))))))) (pss_one (ps_ret pe_bl)) pss_nil))))))
      (pss_one (ps_ret pe_bl))))), ?_⟩
  refine fun d hd => ?_
  have lx : xs2.length = w2.length := by rw [dp2.length, List.length_map]
  refine q_forT (ev_var rfl) (ex_t (Ex.new hd) sq2) (fun i σ' H' => (∃ x y z, σ' = [some (.ref a1), some (.ref a2), some (.ref d), x, y, z, none, none]) ∧ Ex H H' ∧ ∃ kvs, H' d = some (.dK kvs) ∧ kvs.length ≤ i ∧ CovD K H' (w2.take i) kvs)
    (fun H1 e1 => ⟨⟨_, _, _, rfl⟩, (Ex.new hd).trans e1, [], e1 _ _ upd_same, Nat.le_refl _, fun f => ⟨fun _ => rfl, fun s h => by cases h⟩⟩) (fun i σ' H' _ p => ex_t p.2.1 sq2) (fun i x σ' H' hi p => ?_) fun σ' H' p => ?_
  · obtain ⟨⟨x1, y1, z1, rfl⟩, e1, kvs, hk, hl, cd⟩ := p
    obtain ⟨pt, hp, hdp⟩ := dp_part dp2 hi
    refine g_part (hdp.ex e1) ?_
    refine ⟨_, rfl, _, rfl, (show 2 ≤ sizeLine by decide), fun t ht => ?_⟩
    have hi' : i < w2.length := (List.getElem?_eq_some_iff.mp hp).1
    have td : t ≠ d := fun e => by subst e; rw [hk] at ht; cases ht
    have hk2 : upd H' t (.tup [oV pt.2.1, oV pt.2.2]) d = some (.dK kvs) := by rw [upd_ne (Ne.symm td)]; exact hk
    have st : SqT K (upd H' t (.tup [oV pt.2.1, oV pt.2.2])) t [oV pt.2.1, oV pt.2.2] := st_of upd_same
    refine ⟨_, rfl, _, rfl, d, _, rfl, DPut.k (k := .inr pt.1) hk2 (sz_lt (by have := ok.len; omega)), ?_⟩
    have kp : Kept H' (upd H' t (.tup [oV pt.2.1, oV pt.2.2])) := .of (Ex.new ht)
    have kp2 : Kept (upd H' t (.tup [oV pt.2.1, oV pt.2.2])) (upd (upd H' t (.tup [oV pt.2.1, oV pt.2.2])) d (.dK (putK kvs (.inr pt.1) (.ref t)))) := .upd hk2 not_hard_dK
    refine ⟨⟨_, _, _, rfl⟩, Ex.mut (e1.trans (Ex.new ht)) hd, _, upd_same, by have := length_putK kvs (.inr pt.1) (V.ref t); omega, ?_⟩
    rw [take_of hp]
    exact ((cd.mono kp).put (fnd_take ok.asc hp) st).mono kp2
  · obtain ⟨⟨x1, y1, z1, rfl⟩, e1, kvs, hk, hl, cd⟩ := p
    rw [show w2.take xs2.length = w2 from by rw [lx, List.take_length]] at cd
    refine q_forT (ev_var rfl) (ex_t e1 sq1) (fun i σ' H2 => (∃ x y z u v, σ' = [some (.ref a1), some (.ref a2), some (.ref d), x, y, z, u, v]) ∧ Ex H' H2 ∧ (w1.take i).all (cov1 w2) = true)
      (fun H1 e2 => ⟨⟨_, _, _, _, _, rfl⟩, e2, by simp⟩) (fun i σ' H' _ p => ex_t (e1.trans p.2.1) sq1) (fun i x σ' H2 hi p => ?_) fun σ' H2 p => ?_
    · obtain ⟨⟨x1, y1, z1, u1, v1, rfl⟩, e2, al⟩ := p
      obtain ⟨pt, hp, hdp⟩ := dp_part dp1 hi
      refine g_part (hdp.ex (e1.trans e2)) ?_
      have hmem : pt ∈ w1 := List.mem_of_getElem? hp
      have dg : DGet H2 d (.str pt.1) (valV kvs (.inr pt.1)) := DGet.k (k := .inr pt.1) (e2 _ _ hk)
      refine q_when (b := !(valV kvs (.inr pt.1)).isSome) (et_B (ev_dnin (ev_var rfl) (ev_var rfl) dg)) (fun hb H3 e3 => ?_) (fun hb H3 e3 => ?_)
      · have hn : fnd w2 pt.1 = none := by
          cases e : fnd w2 pt.1 with
          | none => rfl
          | some s =>
            obtain ⟨t, h1, _⟩ := (cd pt.1).2 s e
            rw [h1] at hb; cases hb
        refine s_ret ev_c fun H4 e4 => ?_
        have hc : cov w1 w2 = false := by
          cases e : cov w1 w2 with
          | false => rfl
          | true =>
            obtain ⟨s, h1, _⟩ := cov_get e hmem
            rw [hn] at h1; cases h1
        rw [hc] at q
        exact q H4 (((e1.trans e2).trans e3).trans e4)
      · obtain ⟨s, hs⟩ : ∃ s, fnd w2 pt.1 = some s := by
          cases e : fnd w2 pt.1 with
          | some s => exact ⟨s, rfl⟩
          | none => rw [(cd pt.1).1 e] at hb; cases hb
        obtain ⟨t, ht, st⟩ := (cd pt.1).2 s hs
        refine ⟨_, rfl, _, rfl, d, .ref t, rfl, dget_ex e3 (by rw [← ht]; exact dg), t, _, rfl, ex_t (e2.trans e3) st, rfl, _, _, rfl, _, _, rfl, rfl, ?_⟩
        have cv : cov1 w2 pt = (loOk pt.2.1 s.1 && hiOk pt.2.2 s.2) := by unfold cov1; rw [hs]
        have no : cov1 w2 pt = false → cov w1 w2 = false := fun h => by
          cases e : cov w1 w2 with
          | false => rfl
          | true => have := List.all_eq_true.mp e pt hmem; rw [h] at this; cases this
        dsimp only
        refine q_when (et_lo rfl rfl) (fun hb H4 e4 => ?_) (fun hb H4 e4 => ?_)
        · refine s_ret ev_c fun H5 e5 => ?_
          rw [no (by rw [cv]; simp at hb; simp [hb])] at q
          exact q H5 ((((e1.trans e2).trans e3).trans e4).trans e5)
        · refine s_when (et_hi rfl rfl) (fun hb2 H5 e5 => ?_) (fun hb2 H5 e5 => ?_)
          · refine s_ret ev_c fun H6 e6 => ?_
            rw [no (by rw [cv]; simp at hb2; simp [hb2])] at q
            exact q H6 (((((e1.trans e2).trans e3).trans e4).trans e5).trans e6)
          · refine ⟨⟨_, _, _, _, _, rfl⟩, ((e2.trans e3).trans e4).trans e5, ?_⟩
            rw [take_of hp, List.all_append, al, Bool.true_and]
            simp only [List.all_cons, List.all_nil, Bool.and_true, cv]
            simp at hb hb2
            simp [hb, hb2]
    · obtain ⟨⟨x1, y1, z1, u1, v1, rfl⟩, e2, al⟩ := p
      refine s_ret ev_c fun H4 e4 => ?_
      have lx1 : xs1.length = w1.length := by rw [dp1.length, List.length_map]
      rw [lx1, List.take_length] at al
      have hc : cov w1 w2 = true := al
      rw [hc] at q
      exact q H4 ((e1.trans e2).trans e4)

theorem ok_law_covers (T : Txt K mg CS CP) (F : FnP K "_law_covers" "_law_covers" s_law_covers f fd) : FnOk P w K mg base CX0 1 f fd ["one", "other"] (spR (rCov K)) := by
  refine F.ok sc_law_covers (fun vs H Q E h => ?_) (fun cdv A outer s H vs Q E hr h => ?_)
  · obtain ⟨r, ⟨v1, v2, a, b, rfl, _⟩, _⟩ := h; rfl
  obtain ⟨r, ⟨v1, v2, w1, w2, rfl, wa1, wa2, ok, rfl⟩, q⟩ := h
  obtain ⟨a1, xs1, rfl, sq1, dp1⟩ := wa1.ref
  obtain ⟨a2, xs2, rfl, sq2, dp2⟩ := wa2.ref
  have hu := hu_of hr
  refine ⟨_, PSs.nox (pss_cons (ps_set (i := 2) sc_law_covers.nd rfl (Or.inl rfl) pe_dnewK)
      (pss_cons (ps_for PassesOwn.never rfl (pi_tup (pv 1)) (pg_tup rfl (pgs_cons (pg_name (i := 3) sc_law_covers.nd rfl (Or.inl rfl)) (pgs_cons (pg_name (i := 4) sc_law_covers.nd rfl (Or.inl rfl)) (pgs_cons (pg_name (i := 5) sc_law_covers.nd rfl (Or.inl rfl)) pgs_nil)))) (pss_one (ps_dput hu (pv 2) (pv 3) (pe_tup (pa_cons (pv 4) (pa_cons (pv 5) pa_nil))) rfl)))
      (pss_cons (ps_for PassesOwn.never rfl (pi_tup (pv 0)) (pg_tup rfl (pgs_cons (pg_name (i := 3) sc_law_covers.nd rfl (Or.inl rfl)) (pgs_cons (pg_name (i := 4) sc_law_covers.nd rfl (Or.inl rfl)) (pgs_cons (pg_name (i := 5) sc_law_covers.nd rfl (Or.inl rfl)) pgs_nil)))) (pss_cons (ps_if (pt_cmp (pc_dnotin hu (pv 3) (pv 2))) (pss_one (ps_ret pe_bl)) pss_nil)
      (pss_cons (ps_asg (pe_dget hu (pv 2) (pv 3) (fun _ _ => rfl)) (pg_tup rfl (pgs_cons (pg_name (i := 6) sc_law_covers.nd rfl (Or.inl rfl)) (pgs_cons (pg_name (i := 7) sc_law_covers.nd rfl (Or.inl rfl)) pgs_nil))))
      (pss_cons (ps_if (PW.pt (pw_and (pt_cmpR op_notN1 (pv 4) pe_non (nomark _)) (pw_and1 (PW.pt (pw_or (pt_cmpR op_isN1 (pv 6) pe_non (nomark _)) (pw_or1 (pt_cmpR op_lt (pv 6) (pv 4) (nomark _)))))))) (pss_one (ps_ret pe_bl)) pss_nil)
      (pss_one (ps_if (PW.pt (pw_and (pt_cmpR op_notN1 (pv 5) pe_non (nomark _)) (pw_and1 (PW.pt (pw_or (pt_cmpR op_isN1 (pv 7) pe_non (nomark _)) (pw_or1 (pt_cmpR op_gt (pv 7) (pv 5) (nomark _)))))))) (pss_one (ps_ret pe_bl)) pss_nil))))))
      (pss_one (ps_ret pe_bl))))), ?_⟩
  refine fun d hd => ?_
  have lx : xs2.length = w2.length := by rw [dp2.length, List.length_map]
  refine q_forT (ev_var rfl) (ex_t (Ex.new hd) sq2) (fun i σ' H' => (∃ x y z, σ' = [some (.ref a1), some (.ref a2), some (.ref d), x, y, z, none, none]) ∧ Ex H H' ∧ ∃ kvs, H' d = some (.dK kvs) ∧ kvs.length ≤ i ∧ CovD K H' (w2.take i) kvs)
    (fun H1 e1 => ⟨⟨_, _, _, rfl⟩, (Ex.new hd).trans e1, [], e1 _ _ upd_same, Nat.le_refl _, fun f => ⟨fun _ => rfl, fun s h => by cases h⟩⟩) (fun i σ' H' _ p => ex_t p.2.1 sq2) (fun i x σ' H' hi p => ?_) fun σ' H' p => ?_
  · obtain ⟨⟨x1, y1, z1, rfl⟩, e1, kvs, hk, hl, cd⟩ := p
    obtain ⟨pt, hp, hdp⟩ := dp_part dp2 hi
    refine g_part (hdp.ex e1) ?_
    refine ⟨_, rfl, _, rfl, (show 2 ≤ sizeLine by decide), fun t ht => ?_⟩
    have hi' : i < w2.length := (List.getElem?_eq_some_iff.mp hp).1
    have td : t ≠ d := fun e => by subst e; rw [hk] at ht; cases ht
    have hk2 : upd H' t (.tup [oV pt.2.1, oV pt.2.2]) d = some (.dK kvs) := by rw [upd_ne (Ne.symm td)]; exact hk
    have st : SqT K (upd H' t (.tup [oV pt.2.1, oV pt.2.2])) t [oV pt.2.1, oV pt.2.2] := st_of upd_same
    refine ⟨_, rfl, _, rfl, d, _, rfl, DPut.k (k := .inr pt.1) hk2 (sz_lt (by have := ok.len; omega)), ?_⟩
    have kp : Kept H' (upd H' t (.tup [oV pt.2.1, oV pt.2.2])) := .of (Ex.new ht)
    have kp2 : Kept (upd H' t (.tup [oV pt.2.1, oV pt.2.2])) (upd (upd H' t (.tup [oV pt.2.1, oV pt.2.2])) d (.dK (putK kvs (.inr pt.1) (.ref t)))) := .upd hk2 not_hard_dK
    refine ⟨⟨_, _, _, rfl⟩, Ex.mut (e1.trans (Ex.new ht)) hd, _, upd_same, by have := length_putK kvs (.inr pt.1) (V.ref t); omega, ?_⟩
    rw [take_of hp]
    exact ((cd.mono kp).put (fnd_take ok.asc hp) st).mono kp2
  · obtain ⟨⟨x1, y1, z1, rfl⟩, e1, kvs, hk, hl, cd⟩ := p
    rw [show w2.take xs2.length = w2 from by rw [lx, List.take_length]] at cd
    refine q_forT (ev_var rfl) (ex_t e1 sq1) (fun i σ' H2 => (∃ x y z u v, σ' = [some (.ref a1), some (.ref a2), some (.ref d), x, y, z, u, v]) ∧ Ex H' H2 ∧ (w1.take i).all (cov1 w2) = true)
      (fun H1 e2 => ⟨⟨_, _, _, _, _, rfl⟩, e2, by simp⟩) (fun i σ' H' _ p => ex_t (e1.trans p.2.1) sq1) (fun i x σ' H2 hi p => ?_) fun σ' H2 p => ?_
    · obtain ⟨⟨x1, y1, z1, u1, v1, rfl⟩, e2, al⟩ := p
      obtain ⟨pt, hp, hdp⟩ := dp_part dp1 hi
      refine g_part (hdp.ex (e1.trans e2)) ?_
      have hmem : pt ∈ w1 := List.mem_of_getElem? hp
      have dg : DGet H2 d (.str pt.1) (valV kvs (.inr pt.1)) := DGet.k (k := .inr pt.1) (e2 _ _ hk)
      refine q_when (b := !(valV kvs (.inr pt.1)).isSome) (et_B (ev_dnin (ev_var rfl) (ev_var rfl) dg)) (fun hb H3 e3 => ?_) (fun hb H3 e3 => ?_)
      · have hn : fnd w2 pt.1 = none := by
          cases e : fnd w2 pt.1 with
          | none => rfl
          | some s =>
            obtain ⟨t, h1, _⟩ := (cd pt.1).2 s e
            rw [h1] at hb; cases hb
        refine s_ret ev_c fun H4 e4 => ?_
        have hc : cov w1 w2 = false := by
          cases e : cov w1 w2 with
          | false => rfl
          | true =>
            obtain ⟨s, h1, _⟩ := cov_get e hmem
            rw [hn] at h1; cases h1
        rw [hc] at q
        exact q H4 (((e1.trans e2).trans e3).trans e4)
      · obtain ⟨s, hs⟩ : ∃ s, fnd w2 pt.1 = some s := by
          cases e : fnd w2 pt.1 with
          | some s => exact ⟨s, rfl⟩
          | none => rw [(cd pt.1).1 e] at hb; cases hb
        obtain ⟨t, ht, st⟩ := (cd pt.1).2 s hs
        refine ⟨_, rfl, _, rfl, d, .ref t, rfl, dget_ex e3 (by rw [← ht]; exact dg), t, _, rfl, ex_t (e2.trans e3) st, rfl, _, _, rfl, _, _, rfl, rfl, ?_⟩
        have cv : cov1 w2 pt = (loOk pt.2.1 s.1 && hiOk pt.2.2 s.2) := by unfold cov1; rw [hs]
        have no : cov1 w2 pt = false → cov w1 w2 = false := fun h => by
          cases e : cov w1 w2 with
          | false => rfl
          | true => have := List.all_eq_true.mp e pt hmem; rw [h] at this; cases this
        dsimp only
        refine q_when (et_lo rfl rfl) (fun hb H4 e4 => ?_) (fun hb H4 e4 => ?_)
        · refine s_ret ev_c fun H5 e5 => ?_
          rw [no (by rw [cv]; simp at hb; simp [hb])] at q
          exact q H5 ((((e1.trans e2).trans e3).trans e4).trans e5)
        · refine s_when (et_hi rfl rfl) (fun hb2 H5 e5 => ?_) (fun hb2 H5 e5 => ?_)
          · refine s_ret ev_c fun H6 e6 => ?_
            rw [no (by rw [cv]; simp at hb2; simp [hb2])] at q
            exact q H6 (((((e1.trans e2).trans e3).trans e4).trans e5).trans e6)
          · refine ⟨⟨_, _, _, _, _, rfl⟩, ((e2.trans e3).trans e4).trans e5, ?_⟩
            rw [take_of hp, List.all_append, al, Bool.true_and]
            simp only [List.all_cons, List.all_nil, Bool.and_true, cv]
            simp at hb hb2
            simp [hb, hb2]
    · obtain ⟨⟨x1, y1, z1, u1, v1, rfl⟩, e2, al⟩ := p
      refine s_ret ev_c fun H4 e4 => ?_
      have lx1 : xs1.length = w1.length := by rw [dp1.length, List.length_map]
      rw [lx1, List.take_length] at al
      have hc : cov w1 w2 = true := al
      rw [hc] at q
      exact q H4 ((e1.trans e2).trans e4)

end
end K33
/-! K8: rank, unlike, is_below, greatest_of, look_unlike, change. -/
namespace L2
open PySem PySem.Spec PyProof.Rows Evl
/-- the heap without p -/
def del (H : Hp) (p : Addr) : Hp := fun b => if b = p then none else H b
section
variable {K : PySem.W.Frag} {H H' : Hp} {p b : Addr} {o : HO}
theorem del_ne (h : b ≠ p) : del H p b = H b := if_neg h
theorem del_same : del H p p = none := if_pos rfl
theorem ex_del : Ex (del H p) H := fun a o h => by
  by_cases e : a = p
  · subst e; rw [del_same] at h; cases h
  · rw [del_ne e] at h; exact h
theorem ex_del_upd : Ex (del H p) (upd H p o) := fun a u h => by
  by_cases e : a = p
  · subst e; rw [del_same] at h; cases h
  · rw [del_ne e] at h; rw [upd_ne e]; exact h
theorem del_ex (e : Ex H H') : Ex (del H p) (del H' p) := fun a u h => by
  by_cases q : a = p
  · subst q; rw [del_same] at h; cases h
  · rw [del_ne q] at h ⊢; exact e _ _ h
theorem del_upd : del (upd H p o) p = del H p := by
  funext a
  by_cases q : a = p
  · subst q; rw [del_same, del_same]
  · rw [del_ne q, del_ne q, upd_ne q]
theorem ex_in_del (e : Ex H H') (hp : H p = none) : Ex H (del H' p) := fun a u h => by
  have q : a ≠ p := ne_of_none h hp
  rw [del_ne q]; exact e _ _ h
theorem DpAll.perm {α : Type} {g : α → PyData} {xs ys : List V} (pm : ys.Perm xs) : ∀ {ds : List α}, DpAll K H xs (ds.map g) → ∃ es, List.Perm es ds ∧ DpAll K H ys (es.map g) := by
  induction pm with
  | nil => exact fun {ds} h => ⟨ds, .refl _, h⟩
  | cons x pm ih =>
    intro ds h
    cases ds with
    | nil => cases h
    | cons d ds =>
      cases h with
      | cons h1 h2 =>
        obtain ⟨es, p1, p2⟩ := ih h2
        exact ⟨d :: es, p1.cons d, .cons h1 p2⟩
  | swap x y l =>
    intro ds h
    cases ds with
    | nil => cases h
    | cons d ds =>
      cases ds with
      | nil => cases h with
        | cons h1 h2 => cases h2
      | cons e ds =>
        cases h with
        | cons h1 h2 => cases h2 with
          | cons h3 h4 => exact ⟨e :: d :: ds, .swap _ _ _, .cons h3 (.cons h1 h4)⟩
  | trans p1 p2 ih1 ih2 =>
    intro ds h
    obtain ⟨es, q1, q2⟩ := ih2 h
    obtain ⟨fs, r1, r2⟩ := ih1 q2
    exact ⟨fs, r1.trans q1, r2⟩
end
end L2
namespace K33
open PySem PySem.Spec PyProof.Rows L2 Evl
/-! ### keys of the sort -/
def loK : Option Int → List PyData
  | none => [.int 0, .int 0]
  | some l => [.int 1, .int l]
def hiK : Option Int → List PyData
  | none => [.int 1, .int 0]
  | some h => [.int 0, .int h]
def kD (p : Part) : PyData := .tuple [.str p.1, .tuple (loK p.2.1), .tuple (hiK p.2.2)]
def kDs (w : Wish) : PyData := .list (w.map kD)
theorem lo_alike (a b : Option Int) : PySem.W.alikeAll (loK a) (loK b) = true := by cases a <;> cases b <;> simp [loK, PySem.W.alike, PySem.W.alikeAll]
theorem hi_alike (a b : Option Int) : PySem.W.alikeAll (hiK a) (hiK b) = true := by cases a <;> cases b <;> simp [hiK, PySem.W.alike, PySem.W.alikeAll]
theorem kD_alike (p q : Part) : PySem.W.alike (kD p) (kD q) = true := by simp [kD, PySem.W.alike, PySem.W.alikeAll, lo_alike, hi_alike]
theorem kDs_alike0 : ∀ v w : Wish, PySem.W.alikeAll (v.map kD) (w.map kD) = true
  | [], _ => by simp [PySem.W.alikeAll]
  | _ :: _, [] => by simp [PySem.W.alikeAll]
  | p :: v, q :: w => by simp [PySem.W.alikeAll, kD_alike, kDs_alike0 v w]
theorem kDs_alike (v w : Wish) : PySem.W.alike (kDs v) (kDs w) = true := by simp only [kDs, PySem.W.alike]; exact kDs_alike0 v w
theorem kD_depth (p : Part) : (kD p).depth ≤ 2 := by
  obtain ⟨f, a, b⟩ := p
  cases a <;> cases b <;> simp [kD, loK, hiK, PyData.depth, PyData.depthAll]
theorem kDs_depth0 : ∀ w : Wish, PyData.depthAll (w.map kD) ≤ 2
  | [] => by simp [PyData.depthAll]
  | p :: w => by
    have := kDs_depth0 w
    have := kD_depth p
    simp only [List.map_cons, PyData.depthAll]
    omega
theorem kDs_depth (w : Wish) : (kDs w).depth ≤ 8 := by
  have := kDs_depth0 w
  simp only [kDs, PyData.depth]; omega
section
variable {K : PySem.W.Frag} {σ : L2.St} {H H' : Hp} {ta tb te tl : TE} {t : TT} {D : Ends} {tk : TA}
theorem eu_if {b : Bool} {xs : List V} (h : EvT t σ H b) (h1 : b = true → EvU ta σ H xs) (h2 : b = false → EvU tb σ H xs) : EvU (tIf t ta tb) σ H xs := fun H1 e Q q => h H1 e _ fun H2 e2 => by
  cases b with
  | true =>
    show ta σ H2 Q
    exact h1 rfl H2 (e.trans e2) Q fun p H3 hp e3 h3 => q p H3 (fresh_back e2 hp) (e2.trans e3) h3
  | false =>
    show tb σ H2 Q
    exact h2 rfl H2 (e.trans e2) Q fun p H3 hp e3 h3 => q p H3 (fresh_back e2 hp) (e2.trans e3) h3
theorem s_retCKw {r : List V → List V → Hp → VK → Prop} {xs : List V} (h : EvL tl σ H xs) (k : ∀ p H1, H p = none → Ex H H1 → H1 p = some (.lst xs) → tk σ H1 fun zs H2 => r [.ref p] zs H2 D.rt) : tRet (tCKw r (tCons tl tNil) tk) D σ H :=
  h H (Ex.refl H) _ fun p H1 hp e h1 => k p H1 hp e h1
def loV : Option Int → List V
  | none => [.int 0, .int 0]
  | some l => [.int 1, .int l]
def hiV : Option Int → List V
  | none => [.int 1, .int 0]
  | some h => [.int 0, .int h]
theorem loV_dp (o : Option Int) : DpAll K H (loV o) (loK o) := by cases o <;> exact .cons (.int _) (.cons (.int _) .nil)
theorem hiV_dp (o : Option Int) : DpAll K H (hiV o) (hiK o) := by cases o <;> exact .cons (.int _) (.cons (.int _) .nil)
/-- a list of wishes, a new one -/
def LN (K : PySem.W.Frag) (H : Hp) (p : Addr) (ws : List Wish) : Prop := ∃ rs, H p = some (.lst rs) ∧ WAs K H rs ws
theorem LN.la {p : Addr} {ws : List Wish} (h : LN K H p ws) : LA K H p ws := let ⟨rs, h1, h2⟩ := h; ⟨rs, sq_of h1, h2⟩
/-- a comprehension that picks wishes -/
theorem given_pick {xs : List V} {ws : List Wish} (was : WAs K H xs ws) (g : Wish → Bool) (f : Nat → Bool) (v : Nat → V) (hf : ∀ (i : Nat) x, ws[i]? = some x → f i = g x) (hv : ∀ (i : Nat) x, xs[i]? = some x → v i = x) : WAs K H (given xs.length f v) (ws.filter g) := by
  have lw := was.length
  have main : ∀ n, n ≤ ws.length → WAs K H (given n f v) ((ws.take n).filter g) := by
    intro n
    induction n with
    | zero => intro _; exact .nil
    | succ n ih =>
      intro hn
      have hw : ws[n]? = some ws[n] := List.getElem?_eq_getElem (by omega)
      have hx : xs[n]? = some xs[n] := List.getElem?_eq_getElem (by omega)
      obtain ⟨w2, hw2, wa⟩ := was.get hx
      rw [hw] at hw2
      cases hw2
      rw [take_of hw, List.filter_append]
      cases e : g ws[n] with
      | true =>
        rw [given_yes (by rw [hf n _ hw, e]), List.filter_cons_of_pos e, hv n _ hx]
        unfold WAs
        rw [List.map_append]
        exact (ih (by omega)).append (.cons wa .nil)
      | false =>
        rw [given_no (by rw [hf n _ hw, e]), List.filter_cons_of_neg (by rw [e]; decide)]
        simpa using ih (by omega)
  have := main ws.length (Nat.le_refl _)
  rw [List.take_length] at this
  rw [lw]
  exact this
end
section
variable {P : Program} {w : World} {K : PySem.W.Frag} {mg : Str → Option Value} {base : Heap} {CS CP f : Addr} {fd : FuncData}
def spRank (K : PySem.W.Frag) : Sp := fun vs H Q _ => ∃ v wi, vs = [v] ∧ WA K H v wi ∧ WOk wi ∧ ∀ v' H', Ex H H' → Dp K H' v' (kDs wi) → Q v' H'
theorem ok_rank (T : Txt K mg CS CP) (F : FnP K "rank" "rank" s_rank f fd) : FnOk P w K mg base CX0 1 f fd ["wish"] (spRank K) := by
  refine F.ok sc_rank (fun vs H Q E h => ?_) (fun cdv A outer s H vs Q E hr h => ?_)
  · obtain ⟨v, wi, rfl, _⟩ := h; rfl
  obtain ⟨v, wi, rfl, wa, ok, q⟩ := h
  obtain ⟨a, xs, rfl, sq, dp⟩ := wa.ref
  refine ⟨_, PSs.nox (pss_cons (ps_set (i := 1) sc_rank.nd rfl (Or.inl rfl) (pe_lst pa_nil))
      (pss_cons (ps_for PassesOwn.never rfl (pi_tup (pv 0)) (pg_tup rfl (pgs_cons (pg_name (i := 2) sc_rank.nd rfl (Or.inl rfl)) (pgs_cons (pg_name (i := 3) sc_rank.nd rfl (Or.inl rfl)) (pgs_cons (pg_name (i := 4) sc_rank.nd rfl (Or.inl rfl)) pgs_nil)))) (pss_cons (ps_set (i := 5) sc_rank.nd rfl (Or.inl rfl) (pe_ifExp (pt_cmpR op_isN1 (pv 3) pe_non (nomark _)) (pe_tup (pa_cons pe_int (pa_cons pe_int pa_nil))) (pe_tup (pa_cons pe_int (pa_cons (pv 3) pa_nil)))))
      (pss_cons (ps_set (i := 6) sc_rank.nd rfl (Or.inl rfl) (pe_ifExp (pt_cmpR op_isN1 (pv 4) pe_non (nomark _)) (pe_tup (pa_cons pe_int (pa_cons pe_int pa_nil))) (pe_tup (pa_cons pe_int (pa_cons (pv 4) pa_nil)))))
      (pss_one (ps_expr (pe_bm PySem.F.plainAttrs_list PySem.F.slot_list_append PySem.F.type_list_append mt_append (pv 1) (pa_cons (pe_tup (pa_cons (pv 2) (pa_cons (pv 5) (pa_cons (pv 6) pa_nil)))) pa_nil)))))))
      (pss_one (ps_ret (pv 1))))), ?_⟩
  refine q_asgL (el_lst ea_nil (Nat.zero_le _)) fun k H1 hk e1 h1 => ?_
  have lx : xs.length = wi.length := by rw [dp.length, List.length_map]
  refine q_forT (ev_var rfl) (ex_t e1 sq) (fun i σ' H' => (∃ x y z u v, σ' = [some (.ref a), some (.ref k), x, y, z, u, v]) ∧ Ex H H' ∧ ∃ ks, H' k = some (.lst ks) ∧ ks.length = i ∧ DpAll K (del H' k) ks ((wi.take i).map kD))
    (fun H2 e2 => ⟨⟨_, _, _, _, _, rfl⟩, e1.trans e2, [], e2 _ _ h1, rfl, .nil⟩) (fun i σ' H' _ p => ex_t p.2.1 sq) (fun i x σ' H' hi p => ?_) fun σ' H' p => ?_
  · obtain ⟨⟨x1, y1, z1, u1, v1, rfl⟩, e2, ks, hks, hl, dk⟩ := p
    obtain ⟨pt, hp, hdp⟩ := dp_part dp hi
    refine g_part (hdp.ex e2) ?_
    have hi' : i < wi.length := (List.getElem?_eq_some_iff.mp hp).1
    obtain ⟨fl, lo, hi2⟩ := pt
    refine q_asgU (xs := loV lo) (eu_if (et_test (ev_op (ev_var rfl) ev_c (rv_isN rfl))) (fun hb => ?_) (fun hb => ?_)) fun t1 H3 ht1 e3 h3 => ?_
    · cases lo with
      | none => exact eu_tup (ea_cons ev_c (ea_cons ev_c ea_nil)) (by decide)
      | some l => simp [oV] at hb
    · cases lo with
      | none => simp [oV] at hb
      | some l => exact eu_tup (ea_cons ev_c (ea_cons (ev_var rfl) ea_nil)) (by show 2 ≤ 100000; decide)
    refine q_asgU (xs := hiV hi2) (eu_if (et_test (ev_op (ev_var rfl) ev_c (rv_isN rfl))) (fun hb => ?_) (fun hb => ?_)) fun t2 H4 ht2 e4 h4 => ?_
    · cases hi2 with
      | none => exact eu_tup (ea_cons ev_c (ea_cons ev_c ea_nil)) (by decide)
      | some l => simp [oV] at hb
    · cases hi2 with
      | none => simp [oV] at hb
      | some l => exact eu_tup (ea_cons ev_c (ea_cons (ev_var rfl) ea_nil)) (by show 2 ≤ 100000; decide)
    refine s_appU (ys := [.str fl, .ref t1, .ref t2]) (e4 _ _ (e3 _ _ hks)) (ev_var rfl) (eu_tup (ea_cons (ev_var rfl) (ea_cons (ev_var rfl) (ea_cons (ev_var rfl) ea_nil))) (by show 3 ≤ 100000; decide)) (by have := ok.len; omega) fun t3 H5 ht3 e5 h5 => ?_
    have n1 : t1 ≠ k := Ne.symm (ne_of_none hks ht1)
    have n2 : t2 ≠ k := Ne.symm (ne_of_none (e3 _ _ hks) ht2)
    have n3 : t3 ≠ k := Ne.symm (ne_of_none (e4 _ _ (e3 _ _ hks)) ht3)
    have nk : H k = none := hk
    refine ⟨⟨_, _, _, _, _, rfl⟩, Ex.mut (((e2.trans e3).trans e4).trans e5) nk, _, upd_same, by rw [List.length_append, hl]; rfl, ?_⟩
    rw [del_upd, take_of hp, List.map_append]
    refine (dk.ex (del_ex ((e3.trans e4).trans e5))).append (.cons (.tup (st_of (by rw [del_ne n3]; exact h5)) (.cons (.str _) (.cons (.tup (st_of (by rw [del_ne n1]; exact e5 _ _ (e4 _ _ h3))) (loV_dp _)) (.cons (.tup (st_of (by rw [del_ne n2]; exact e5 _ _ h4)) (hiV_dp _)) .nil)))) .nil)
  · obtain ⟨⟨x1, y1, z1, u1, v1, rfl⟩, e2, ks, hks, hl, dk⟩ := p
    rw [lx, List.take_length] at dk
    exact s_ret (ev_var rfl) fun H3 e3 => q _ H3 (e2.trans e3) (.lst (sq_of (e3 _ _ hks)) (dk.ex (ex_del.trans e3)))
def spUnlike (K : PySem.W.Frag) : Sp := fun vs H Q _ => ∃ a ws, vs = [.ref a] ∧ LA K H a ws ∧ ws.length ≤ 30000 ∧ ∀ p us H', H p = none → Ex H H' → LN K H' p us → us.Nodup → (∀ u, u ∈ us ↔ u ∈ ws) → us.length ≤ ws.length → Q (.ref p) H'
theorem ok_unlike (T : Txt K mg CS CP) (F : FnP K "unlike" "unlike" s_unlike f fd) : FnOk P w K mg base CX0 1 f fd ["wishes"] (spUnlike K) := by
  refine F.ok sc_unlike (fun vs H Q E h => ?_) (fun cdv A outer s H vs Q E hr h => ?_)
  · obtain ⟨v, wi, rfl, _⟩ := h; rfl
  obtain ⟨a, ws, rfl, ⟨xs, sq, was⟩, hz, q⟩ := h
  have hu9 := u9 hr
  refine ⟨_, PSs.nox (pss_cons (ps_set (i := 1) sc_unlike.nd rfl (Or.inl rfl) pe_dnewN)
      (pss_cons (ps_for PassesOwn.never rfl (pi_list (pv 0)) (pg_name (i := 2) sc_unlike.nd rfl (Or.inl rfl)) (pss_one (ps_nput hu9 (pv 1) (pv 2) pe_bl rfl)))
      (pss_one (ps_ret (pe_callTy (call_listN rfl) (by rfl) T.n_list bt_list (pa_cons (pv 1) pa_nil)))))), ?_⟩
  refine fun d hd => ?_
  have lx := was.length
  refine q_forL (ev_var rfl) (ex_l (Ex.new hd) sq) (fun i σ' H' => (∃ x, σ' = [some (.ref a), some (.ref d), x]) ∧ Ex H H' ∧ ∃ es, DN P w K H' d es ∧ es.length ≤ i ∧ ∀ u, u ∈ es.map (·.1) ↔ u ∈ ws.take i)
    (fun H1 e1 => ⟨⟨_, rfl⟩, (Ex.new hd).trans e1, [], ⟨e1 _ _ upd_same, fun x hx => (by cases hx), List.nodup_nil⟩, Nat.le_refl _, fun u => by simp⟩) (fun i σ' H' _ p => ex_l p.2.1 sq) (fun i x σ' H' hi p => ?_) fun σ' H' p => ?_
  · obtain ⟨⟨x1, rfl⟩, e1, es, dn, hl, mem⟩ := p
    obtain ⟨wi, hw, wa⟩ := was.get hi
    obtain ⟨t, ys, rfl, st, dp⟩ := wa.ref
    have hi' : i < ws.length := (List.getElem?_eq_some_iff.mp hw).1
    have wa1 : WA K H' (.ref t) wi := wa.ex e1
    refine ⟨_, rfl, _, rfl, t, d, wi, es, rfl, rfl, dn, wa1, sz_lt (by omega), ?_⟩
    have kp : Kept H' (upd H' d (dN P w d (putN es wi t (.bl true)))) := .upd dn.at_ (fun h => h)
    refine ⟨⟨_, rfl⟩, Ex.mut e1 hd, _, ⟨upd_same, fun z hz => ?_, putN_nd dn.nd _ _ _⟩, by have := putN_len es wi t (.bl true); omega, fun u => ?_⟩
    · rcases putN_mem hz with ⟨y, hy, h1, h2⟩ | ⟨h1, h2⟩
      · rw [h1, h2]; exact kp.dp (dn.ks y hy)
      · rw [h1, h2]; exact kp.dp wa1
    · rw [putN_keys, take_of hw]
      by_cases hm : wi ∈ es.map (·.1)
      · rw [if_pos hm, List.mem_append, mem u, List.mem_singleton]
        exact ⟨.inl, fun h => h.elim id fun e => e ▸ (mem wi).mp hm⟩
      · rw [if_neg hm, List.mem_append, List.mem_append, mem u]
  · obtain ⟨⟨x1, rfl⟩, e1, es, dn, hl, mem⟩ := p
    rw [lx, List.take_length] at mem
    refine ⟨_, rfl, d, es, rfl, dn, fun p hp => q p (es.map (·.1)) _ (fresh_back e1 hp) (e1.trans (Ex.new hp)) ⟨_, upd_same, ?_⟩ dn.nd mem (by rw [List.length_map]; omega)⟩
    have ks : ∀ x ∈ es, WA K (upd H' p (.lst (es.map fun x => V.ref x.2.1))) (.ref x.2.1) x.1 := fun x hx => (dn.ks x hx).ex (Ex.new hp)
    have all : ∀ l : NE, (∀ x ∈ l, WA K (upd H' p (.lst (es.map fun x => V.ref x.2.1))) (.ref x.2.1) x.1) → WAs K (upd H' p (.lst (es.map fun x => V.ref x.2.1))) (l.map fun x => V.ref x.2.1) (l.map (·.1)) := by
      intro l
      induction l with
      | nil => intro _; exact .nil
      | cons y l ih => intro h; exact .cons (h y (List.mem_cons_self ..)) (ih fun x hx => h x (List.mem_cons_of_mem _ hx))
    exact all es ks
def rBelow (K : PySem.W.Frag) : List V → Hp → V → Prop := fun vs H r => ∃ v a wi ws, vs = [v, .ref a] ∧ WA K H v wi ∧ LA K H a ws ∧ WOk wi ∧ AllOk ws ∧ r = .bl (ws.any fun o => decide (o ≠ wi) && cov o wi)
theorem ok_is_below (T : Txt K mg CS CP) (c_does_cover : Cal P w K mg base "does_cover" 1 ["one", "other"] (spR (rCov K))) (F : FnP K "is_below" "is_below" s_is_below f fd) : FnOk P w K mg base CX0 2 f fd ["wish", "wishes"] (spR (rBelow K)) := by
  refine F.ok sc_is_below (fun vs H Q E h => ?_) (fun cdv A outer s H vs Q E hr h => ?_)
  · obtain ⟨r, ⟨v, a, wi, ws, rfl, _⟩, _⟩ := h; rfl
  obtain ⟨r, ⟨v, a, wi, ws, rfl, wa, ⟨xs, sq, was⟩, ok, oks, rfl⟩, q⟩ := h
  refine ⟨_, PSs.nox (pss_cons (ps_for PassesOwn.never rfl (pi_list (pv 1)) (pg_name (i := 2) sc_is_below.nd rfl (Or.inl rfl)) (pss_one (ps_if (PW.pt (pw_and (pt_cmpR (r := rNeD K) (op_neD hr.units) (pv 2) (pv 0) (nomark _)) (pw_and1 (pt_val (pe_c c_does_cover hr (by decide) rfl (pa_cons (pv 2) (pa_cons (pv 0) pa_nil))))))) (pss_one (ps_ret pe_bl)) pss_nil)))
      (pss_one (ps_ret pe_bl))), ?_⟩
  have lx := was.length
  refine q_forL (ev_var rfl) sq (fun i σ' H' => (∃ x, σ' = [some v, some (.ref a), x]) ∧ Ex H H' ∧ ((ws.take i).any fun o => decide (o ≠ wi) && cov o wi) = false)
    (fun H1 e1 => ⟨⟨_, rfl⟩, e1, by simp⟩) (fun i σ' H' _ p => ex_l p.2.1 sq) (fun i x σ' H' hi p => ?_) fun σ' H' p => ?_
  · obtain ⟨⟨x1, rfl⟩, e1, al⟩ := p
    obtain ⟨o, ho, wo⟩ := was.get hi
    have hm : o ∈ ws := List.mem_of_getElem? ho
    refine s_when (et_and (et_test (ev_op (ev_var rfl) (ev_var rfl) (rv_neW (wo.ex e1) (wa.ex e1) (oks o hm) ok))) fun _ => et_B (ev_c1 (ea_cons (ev_var rfl) (ea_cons (ev_var rfl) ea_nil)) fun H2 e2 => ⟨_, _, o, wi, rfl, wo.ex (e1.trans e2), wa.ex (e1.trans e2), ok, rfl⟩)) (fun hb H2 e2 => ?_) (fun hb H2 e2 => ?_)
    · refine s_ret ev_c fun H3 e3 => ?_
      rw [show (ws.any fun o => decide (o ≠ wi) && cov o wi) = true from List.any_eq_true.mpr ⟨o, hm, hb⟩] at q
      exact q H3 ((e1.trans e2).trans e3)
    · exact ⟨⟨_, rfl⟩, e1.trans e2, by rw [take_of ho, List.any_append, al]; simpa using hb⟩
  · obtain ⟨⟨x1, rfl⟩, e1, al⟩ := p
    rw [lx, List.take_length] at al
    rw [al] at q
    exact s_ret ev_c fun H3 e3 => q H3 (e1.trans e3)
def spGr (K : PySem.W.Frag) : Sp := fun vs H Q _ => ∃ a ws, vs = [.ref a] ∧ LA K H a ws ∧ AllOk ws ∧ ws.length ≤ 30000 ∧ ∀ p gs H', H p = none → Ex H H' → LN K H' p gs → IsGr gs ws → gs.length ≤ ws.length → Q (.ref p) H'
theorem ok_greatest_of (T : Txt K mg CS CP) (c_unlike : Cal P w K mg base "unlike" 1 ["wishes"] (spUnlike K)) (c_is_below : Cal P w K mg base "is_below" 2 ["wish", "wishes"] (spR (rBelow K))) (c_rank : Cal P w K mg base "rank" 1 ["wish"] (spRank K))
    (F : FnP K "greatest_of" "greatest_of" s_greatest_of f fd) : FnOk P w K mg base CX0 4 f fd ["wishes"] (spGr K) := by
  refine F.ok sc_greatest_of (fun vs H Q E h => ?_) (fun cdv A outer s H vs Q E hr h => ?_)
  · obtain ⟨a, ws, rfl, _⟩ := h; rfl
  obtain ⟨a, ws, rfl, la, oks, hz, q⟩ := h
  refine ⟨_, PSs.nox (pss_cons (ps_set (i := 1) sc_greatest_of.nd rfl (Or.inr rfl) (pe_c c_unlike hr (by decide) rfl (pa_cons (pv 0) pa_nil)))
      (pss_one (ps_ret (pe_callBK (cr_sortedKey c_rank.ok (hr.mono (by decide)) c_rank.bi) (by rfl) T.n_sorted bt_sorted (pa_cons (pe_lc (own := [("wish", 2)]) (g := gName 2) rfl sc_greatest_of.nd (pi_list (pv 1)) (blkOk_by (own := [("wish", 2)]) (N := ["wishes", "some", "wish"]) (sc := defScope s_greatest_of) (by decide +kernel)) (fun _ _ _ _ _ => pg_name (i := 2) sc_greatest_of.nd rfl (Or.inl rfl)) (fun _ _ _ _ _ => (pts_one (pt_not (pt_val (pe_c c_is_below hr (by decide) rfl (pa_cons (pv 2) (pa_cons (pv 1) pa_nil))))))) (fun _ _ _ _ _ => (pv 2))) pa_nil) (pk_cons (pe_glob (v := .ref c_rank.f) rfl c_rank.mg rfl) pk_nil))))), ?_⟩
  refine ⟨_, rfl, a, ws, rfl, la, hz, fun u us H1 hu e1 ⟨rs, h1, was⟩ nd mem hl => ?_⟩
  have lx := was.length
  have ok1 : AllOk us := fun x hx => oks x ((mem x).mp hx)
  let g : Wish → Bool := fun x => !us.any fun o => decide (o ≠ x) && cov o x
  refine s_retCKw (σ := [some (.ref a), some (.ref u), none]) (el_lcL (xs := rs) (fun i => g (us.getD i [])) (fun i => rs.getD i .non) (ev_var rfl) (sq_of h1) (by omega) (fun _ => rfl) (fun i x H2 e2 hi => ?_) (fun i x H2 e2 hi _ => ?_)) fun p H2 hp e2 h2 => ?_
  · obtain ⟨o, ho, wo⟩ := was.get hi
    have e : us.getD i [] = o := by rw [List.getD_eq_getElem?_getD, ho]; rfl
    rw [e]
    exact et_not (et_B (ev_c1 (ea_cons (ev_var rfl) (ea_cons (ev_var rfl) ea_nil)) fun H3 e3 => ⟨_, u, o, us, rfl, wo.ex (e2.trans e3), ⟨rs, ex_l (e2.trans e3) (sq_of h1), was.ex (e2.trans e3)⟩, ok1 o (List.mem_of_getElem? ho), ok1, rfl⟩))
  · have e : rs.getD i .non = x := by rw [List.getD_eq_getElem?_getD, hi]; rfl
    rw [e]
    exact ev_var rfl
  · have gp : WAs K H2 (given rs.length (fun i => g (us.getD i [])) (fun i => rs.getD i .non)) (us.filter g) := (given_pick was g _ _ (fun i x h => by rw [List.getD_eq_getElem?_getD, h]; rfl) (fun i x h => by rw [List.getD_eq_getElem?_getD, h]; rfl)).ex e2
    have okg : ∀ x ∈ us.filter g, WOk x := fun x hx => ok1 x ((List.mem_filter.mp hx).1)
    refine ⟨p, _, (us.filter g).map kDs, rfl, rfl, sq_of h2, by rw [List.length_map, gp.length], fun d hd => ?_, fun d hd e he => ?_, fun i x d hx hd H3 e3 QQ qq => ?_, fun ys r H3 pm e3 hr2 hr3 => ?_⟩
    · obtain ⟨x, hx, rfl⟩ := List.mem_map.mp hd
      exact ⟨kDs_depth x, _, rfl⟩
    · obtain ⟨x, hx, rfl⟩ := List.mem_map.mp hd
      obtain ⟨y, hy, rfl⟩ := List.mem_map.mp he
      exact kDs_alike x y
    · obtain ⟨o, ho, wo⟩ := gp.get hx
      rw [List.getElem?_map, ho] at hd
      cases hd
      exact ⟨x, o, rfl, wo.ex e3, okg o (List.mem_of_getElem? ho), fun v H4 e4 dk => qq v H4 e4 dk⟩
    · obtain ⟨gs, pg, dg⟩ := DpAll.perm pm gp
      refine q r gs _ (fresh_back (e1.trans e2) hr2) ((e1.trans e2).trans (e3.trans (Ex.new hr3))) ⟨ys, upd_same, dg.ex (e3.trans (Ex.new hr3))⟩ (IsGr.of_filter nd mem g (fun x hx => ?_) pg) ?_
      · show (!us.any fun o => decide (o ≠ x) && cov o x) = true ↔ _
        rw [Bool.not_eq_true', List.any_eq_false]
        constructor
        · intro h o ho ne
          have := h o ho
          simp [ne] at this
          exact this
        · intro h o ho
          by_cases e : o = x
          · simp [e]
          · simp [h o ho e]
      · have := pg.length_eq
        have := List.length_filter_le g us
        omega
def rLookU (K : PySem.W.Frag) : List V → Hp → V → Prop := fun vs H r => ∃ a ws, vs = [.ref a] ∧ LA K H a ws ∧ AllOk ws ∧ ws.Nodup ∧ ws.length ≤ 30000 ∧ r = .non
theorem ok_look_unlike (T : Txt K mg CS CP) (c_look_wishes : Cal P w K mg base "look_wishes" 4 ["thing"] (spR (rLookW K))) (c_unlike : Cal P w K mg base "unlike" 1 ["wishes"] (spUnlike K)) (F : FnP K "look_unlike" "look_unlike" s_look_unlike f fd) : FnOk P w K mg base CX0 5 f fd ["wishes"] (spR (rLookU K)) := by
  refine F.ok sc_look_unlike (fun vs H Q E h => ?_) (fun cdv A outer s H vs Q E hr h => ?_)
  · obtain ⟨r, ⟨a, ws, rfl, _⟩, _⟩ := h; rfl
  obtain ⟨r, ⟨a, ws, rfl, la, oks, nd, hz, rfl⟩, q⟩ := h
  refine ⟨_, PSs.nox (pss_cons (ps_expr (pe_c c_look_wishes hr (by decide) rfl (pa_cons (pv 0) pa_nil)))
      (pss_one (ps_if (pt_cmpR op_lt (pe_callB call_len_seq (by rfl) T.n_len bt_len (pa_cons (pe_c c_unlike hr (by decide) rfl (pa_cons (pv 0) pa_nil)) pa_nil)) (pe_callB call_len_seq (by rfl) T.n_len bt_len (pa_cons (pv 0) pa_nil)) (nomark _)) pss_never pss_nil))), ?_⟩
  refine q_drop (v := .non) (ev_c1 (ea_cons (ev_var rfl) ea_nil) fun H1 e1 => ⟨a, ws, rfl, la.ex e1, oks, rfl⟩) fun H1 e1 => ?_
  obtain ⟨xs, sq, was⟩ := la
  refine s_when (b := false) (et_is (et_test (ev_op (x := .int (ws.length : Int)) (y := .int (ws.length : Int)) ?_ ?_ rv_I0)) (by simp)) (fun h => by cases h) fun _ H2 e2 => q H2 (e1.trans e2)
  · refine fun H2 e2 Q' q' => ⟨_, rfl, a, ws, rfl, ⟨xs, ex_l (e1.trans e2) sq, was.ex (e1.trans e2)⟩, hz, fun p us H3 hp e3 ln nd2 mem hl => ?_⟩
    obtain ⟨rs, h3, was3⟩ := ln
    have e : us.length = ws.length := ((List.perm_ext_iff_of_nodup nd2 nd).mpr mem).length_eq
    refine ⟨p, rs, rfl, .inl (sq_of h3), ?_⟩
    rw [was3.length, e]
    exact q' H3 e3
  · rw [← was.length]
    exact ev_lenL (ev_var rfl) (ex_l e1 sq)
def spAny : (List V → Hp → Prop) → Sp := fun R vs H Q _ => R vs H ∧ ∀ v H', Ex H H' → Q v H'
def rChange (K : PySem.W.Frag) : List V → Hp → Prop := fun vs H => ∃ a b ws us, vs = [.ref a, .ref b] ∧ LA K H a ws ∧ LA K H b us ∧ AllOk ws ∧ AllOk us ∧ ws.length ≤ 30000 ∧ us.length ≤ 30000
theorem ok_change (T : Txt K mg CS CP) (F : FnP K "change" "change" s_change f fd) : FnOk P w K mg base CX0 1 f fd ["ahead", "behind"] (spAny (rChange K)) := by
  refine F.ok sc_change (fun vs H Q E h => ?_) (fun cdv A outer s H vs Q E hr h => ?_)
  · obtain ⟨⟨a, b, ws, us, rfl, _⟩, _⟩ := h; rfl
  obtain ⟨⟨a, b, ws, us, rfl, la, lb, oka, okb, hza, hzb⟩, q⟩ := h
  have hu65 := u65 hr
  refine ⟨_, PSs.nox (pss_cons (ps_setLc (own := [("wish", 3)]) (g := gName 3) (i := 2) rfl sc_change.nd rfl rfl (sw_true rfl rfl rfl (by decide +kernel)) (pi_list (pv 1)) (blkOk_by (own := [("wish", 3)]) (N := ["ahead", "behind", "come", "wish"]) (sc := defScope s_change) (by decide +kernel)) (fun _ _ _ _ _ => pg_name (i := 3) sc_change.nd rfl (Or.inl rfl)) (fun _ _ _ _ _ => (pts_one (pt_cmpR (r := rNotInD K) (op_notInD hu65) (pv 3) (pv 0) (by rfl)))) (fun _ _ _ _ _ => (pv 3)))
      (pss_one (ps_ret (pe_tup (pa_cons (pv 2) (pa_cons (pe_lc (own := [("wish", 3)]) (g := gName 3) rfl sc_change.nd (pi_list (pv 0)) (blkOk_by (own := [("wish", 3)]) (N := ["ahead", "behind", "come", "wish"]) (sc := defScope s_change) (by decide +kernel)) (fun _ _ _ _ _ => pg_name (i := 3) sc_change.nd rfl (Or.inl rfl)) (fun _ _ _ _ _ => (pts_one (pt_cmpR (r := rNotInD K) (op_notInD hu65) (pv 3) (pv 1) (by rfl)))) (fun _ _ _ _ _ => (pv 3))) pa_nil)))))), ?_⟩
  have la' := la
  have lb' := lb
  obtain ⟨xs, sqa, wasa⟩ := la
  obtain ⟨ys, sqb, wasb⟩ := lb
  have l1 := wasa.length
  have l2 := wasb.length
  refine q_asgL (el_lcL (fun i => !decide (us.getD i [] ∈ ws)) (fun i => ys.getD i .non) (ev_var rfl) sqb (by omega) (fun _ => rfl) (fun i x H2 e2 hi => ?_) (fun i x H2 e2 hi _ => ?_)) fun p H1 hp e1 h1 => ?_
  · obtain ⟨o, ho, wo⟩ := wasb.get hi
    have e : us.getD i [] = o := by rw [List.getD_eq_getElem?_getD, ho]; rfl
    rw [e]
    exact et_test (ev_op (ev_var rfl) (ev_var rfl) (rv_ninW (wo.ex e2) (la'.ex e2) (okb o (List.mem_of_getElem? ho)) oka))
  · have e : ys.getD i .non = x := by rw [List.getD_eq_getElem?_getD, hi]; rfl
    rw [e]
    exact ev_var rfl
  · refine ⟨_, rfl, ?_⟩
    refine (el_lcL (K := K) (fun i => !decide (ws.getD i [] ∈ us)) (fun i => xs.getD i .non) (ev_var rfl) (ex_l e1 sqa) (by omega) (fun _ => rfl) (fun i x H2 e2 hi => ?_) (fun i x H2 e2 hi _ => ?_) : EvL _ _ H1 _) H1 (Ex.refl _) _ fun r H2 hr2 e2 h2 => ⟨by show 2 ≤ sizeLine; decide, fun t ht => q _ _ ((e1.trans e2).trans (Ex.new ht))⟩
    · obtain ⟨o, ho, wo⟩ := wasa.get hi
      have e : ws.getD i [] = o := by rw [List.getD_eq_getElem?_getD, ho]; rfl
      rw [e]
      exact et_test (ev_op (ev_var rfl) (ev_var rfl) (rv_ninW (wo.ex (e1.trans e2)) (lb'.ex (e1.trans e2)) (oka o (List.mem_of_getElem? ho)) okb))
    · have e : xs.getD i .non = x := by rw [List.getD_eq_getElem?_getD, hi]; rfl
      rw [e]
      exact ev_var rfl
end
end K33
/-! K9: the shelf in the heap: entries by holders. -/
namespace K33
open PySem PySem.Spec PyProof.Rows L2 Evl
/-! ### dicts by wishes: members -/
theorem valN_mem {xs : NE} {k : Wish} {v : V} (h : valN xs k = some v) : ∃ x ∈ xs, x.1 = k ∧ x.2.2 = v := by
  unfold valN at h
  obtain ⟨x, hx, e⟩ := Option.map_eq_some_iff.mp h
  have h2 := List.find?_some hx
  exact ⟨x, List.mem_of_find?_eq_some hx, of_decide_eq_true h2, e⟩
theorem valN_some {xs : NE} {k : Wish} : (valN xs k).isSome = decide (k ∈ xs.map (·.1)) := by
  rw [← valN_any]
  by_cases h : k ∈ xs.map (·.1)
  · rw [decide_eq_true h]
    obtain ⟨x, hx, e⟩ := List.mem_map.mp h
    exact List.any_eq_true.mpr ⟨x, hx, decide_eq_true e⟩
  · rw [decide_eq_false h, List.any_eq_false]
    exact fun x hx e => h (List.mem_map.mpr ⟨x, hx, of_decide_eq_true e⟩)
theorem valN_ex {xs : NE} {k : Wish} (h : k ∈ xs.map (·.1)) : ∃ v, valN xs k = some v := Option.isSome_iff_exists.mp (by rw [valN_some]; exact decide_eq_true h)
theorem valN_no {xs : NE} {k : Wish} (h : ¬ k ∈ xs.map (·.1)) : valN xs k = none := by
  cases e : valN xs k with
  | none => rfl
  | some v =>
    have := valN_some (xs := xs) (k := k)
    rw [e, decide_eq_false h] at this
    cases this
theorem putN_mem2 {xs : NE} {k : Wish} {a : Addr} {v : V} {x : Wish × Addr × V} (h : x ∈ putN xs k a v) : (x.1 = k ∧ x.2.2 = v) ∨ (x ∈ xs ∧ x.1 ≠ k) := by
  unfold putN at h
  by_cases q : (xs.any fun x => decide (x.1 = k)) = true
  · rw [if_pos q] at h
    obtain ⟨y, hy, e⟩ := List.mem_map.mp h
    by_cases ey : y.1 = k
    · rw [if_pos ey] at e
      subst e
      exact .inl ⟨ey, rfl⟩
    · rw [if_neg ey] at e
      subst e
      exact .inr ⟨hy, ey⟩
  · rw [if_neg q] at h
    rcases List.mem_append.mp h with h | h
    · refine .inr ⟨h, fun e => q (List.any_eq_true.mpr ⟨x, h, decide_eq_true e⟩)⟩
    · rw [List.mem_singleton] at h
      subst h
      exact .inl ⟨rfl, rfl⟩
theorem valN_put (xs : NE) (k : Wish) (a : Addr) (v : V) : valN (putN xs k a v) k = some v := by
  have hk : k ∈ (putN xs k a v).map (·.1) := by
    rw [putN_keys]
    split
    · assumption
    · simp
  obtain ⟨u, hu⟩ := valN_ex hk
  obtain ⟨x, hx, e1, e2⟩ := valN_mem hu
  rcases putN_mem2 hx with ⟨_, e⟩ | ⟨_, ne⟩
  · rw [hu, ← e2, e]
  · exact absurd e1 ne
theorem dropN_mem {xs : NE} {k : Wish} {x : Wish × Addr × V} : x ∈ dropN xs k ↔ x ∈ xs ∧ x.1 ≠ k := by
  unfold dropN
  rw [List.mem_filter]
  simp
theorem dropN_len (xs : NE) (k : Wish) : (dropN xs k).length ≤ xs.length := List.length_filter_le _ _
theorem dropN_len1 {xs : NE} {k : Wish} (h : k ∈ xs.map (·.1)) : (dropN xs k).length + 1 ≤ xs.length := by
  induction xs with
  | nil => cases h
  | cons x xs ih =>
    unfold dropN at ih ⊢
    by_cases e : x.1 = k
    · rw [List.filter_cons_of_neg (by simp [e]), List.length_cons]
      have := List.length_filter_le (fun x : Wish × Addr × V => decide (x.1 ≠ k)) xs
      omega
    · rw [List.filter_cons_of_pos (by simp [e]), List.length_cons, List.length_cons]
      have h2 : k ∈ xs.map (·.1) := by
        rcases List.mem_cons.mp h with q | q
        · exact absurd q.symm e
        · exact q
      have := ih h2
      omega
/-! ### entries: holder, the address of its dict, its dict -/
abbrev Ents := List (Str × Addr × NE)
def kys (es : NE) : List Wish := es.map (·.1)
def hold (ents : Ents) (h : Str) : List Wish := match ents.find? fun e => decide (e.1 = h) with
  | some e => kys e.2.2
  | none => []
def cnt (ents : Ents) (u : Wish) : Nat := ents.countP fun e => decide (u ∈ kys e.2.2)
def tot : Ents → Nat
  | [] => 0
  | e :: r => e.2.2.length + tot r
def setE (ents : Ents) (h : Str) (es : NE) : Ents := ents.map fun e => if e.1 = h then (e.1, e.2.1, es) else e
def kvsE (ents : Ents) : List (Key × V) := ents.map fun e => (.inr e.1, .ref e.2.1)
def oth (ents : Ents) (b : Str) : List Wish := (ents.filter fun e => decide (e.1 ≠ b)).flatMap fun e => kys e.2.2
theorem find_ent {ents : Ents} (nd : (ents.map (·.1)).Nodup) {e : Str × Addr × NE} (h : e ∈ ents) : ents.find? (fun x => decide (x.1 = e.1)) = some e := by
  induction ents with
  | nil => cases h
  | cons a r ih =>
    obtain ⟨n1, n2⟩ := List.nodup_cons.mp nd
    rw [List.find?_cons]
    rcases List.mem_cons.mp h with q | q
    · subst q; simp
    · have ne : ¬ a.1 = e.1 := fun x => n1 (List.mem_map.mpr ⟨e, q, x.symm⟩)
      simp only [ne, decide_false]
      exact ih n2 q
theorem hold_mem {ents : Ents} (nd : (ents.map (·.1)).Nodup) {e : Str × Addr × NE} (h : e ∈ ents) : hold ents e.1 = kys e.2.2 := by
  unfold hold
  rw [find_ent nd h]
theorem hold_none {ents : Ents} {h : Str} (n : ¬ h ∈ ents.map (·.1)) : hold ents h = [] := by
  unfold hold
  have : ents.find? (fun e => decide (e.1 = h)) = none := List.find?_eq_none.mpr fun e he q => n (List.mem_map.mpr ⟨e, he, of_decide_eq_true q⟩)
  rw [this]
theorem mem_hold {ents : Ents} {h : Str} {u : Wish} (m : u ∈ hold ents h) : ∃ e ∈ ents, e.1 = h ∧ u ∈ kys e.2.2 := by
  unfold hold at m
  split at m
  · rename_i e q
    have h2 := List.find?_some q
    exact ⟨e, List.mem_of_find?_eq_some q, of_decide_eq_true h2, m⟩
  · cases m
theorem oth_mem {ents : Ents} (nd : (ents.map (·.1)).Nodup) {b : Str} {u : Wish} : u ∈ oth ents b ↔ ∃ h, h ≠ b ∧ u ∈ hold ents h := by
  unfold oth
  rw [List.mem_flatMap]
  constructor
  · rintro ⟨e, he, hu⟩
    obtain ⟨h1, h2⟩ := List.mem_filter.mp he
    refine ⟨e.1, of_decide_eq_true h2, ?_⟩
    rw [hold_mem nd h1]
    exact hu
  · rintro ⟨h, ne, hu⟩
    obtain ⟨e, he, e1, e2⟩ := mem_hold hu
    exact ⟨e, List.mem_filter.mpr ⟨he, decide_eq_true (by rw [e1]; exact ne)⟩, e2⟩
theorem oth_len (ents : Ents) (b : Str) : (oth ents b).length ≤ tot ents := by
  unfold oth
  induction ents with
  | nil => exact Nat.le_refl _
  | cons e r ih =>
    rw [List.filter_cons]
    split
    · rw [List.flatMap_cons, List.length_append]
      show (kys e.2.2).length + _ ≤ e.2.2.length + tot r
      have : (kys e.2.2).length = e.2.2.length := List.length_map ..
      omega
    · show _ ≤ e.2.2.length + tot r
      omega
theorem setE_names (ents : Ents) (h : Str) (es : NE) : (setE ents h es).map (·.1) = ents.map (·.1) := by
  unfold setE
  rw [List.map_map]
  refine List.map_congr_left fun e _ => ?_
  show (if e.1 = h then (e.1, e.2.1, es) else e).1 = e.1
  split <;> rfl
theorem setE_addrs (ents : Ents) (h : Str) (es : NE) : (setE ents h es).map (·.2.1) = ents.map (·.2.1) := by
  unfold setE
  rw [List.map_map]
  refine List.map_congr_left fun e _ => ?_
  show (if e.1 = h then (e.1, e.2.1, es) else e).2.1 = e.2.1
  split <;> rfl
theorem setE_kvs (ents : Ents) (h : Str) (es : NE) : kvsE (setE ents h es) = kvsE ents := by
  unfold setE kvsE
  rw [List.map_map]
  refine List.map_congr_left fun e _ => ?_
  show ((Sum.inr (if e.1 = h then (e.1, e.2.1, es) else e).1 : Key), V.ref (if e.1 = h then (e.1, e.2.1, es) else e).2.1) = _
  split <;> rfl
theorem setE_id {ents : Ents} {h : Str} {es : NE} (n : ¬ h ∈ ents.map (·.1)) : setE ents h es = ents := by
  unfold setE
  have : ents.map (fun e => if e.1 = h then (e.1, e.2.1, es) else e) = ents.map id := List.map_congr_left fun e he => if_neg fun q => n (List.mem_map.mpr ⟨e, he, q⟩)
  rw [this, List.map_id]
theorem setE_mem {ents : Ents} (nd : (ents.map (·.1)).Nodup) {h : Str} {d : Addr} {es0 es : NE} (he : (h, d, es0) ∈ ents) {x : Str × Addr × NE} (m : x ∈ setE ents h es) : x = (h, d, es) ∨ (x ∈ ents ∧ x.1 ≠ h) := by
  obtain ⟨e, hm, q⟩ := List.mem_map.mp m
  by_cases e1 : e.1 = h
  · rw [if_pos e1] at q
    have f1 := find_ent nd hm
    have f2 := find_ent nd he
    rw [e1] at f1
    rw [f1] at f2
    cases f2
    exact .inl q.symm
  · rw [if_neg e1] at q
    subst q
    exact .inr ⟨hm, e1⟩
theorem setE_has {ents : Ents} {h : Str} {d : Addr} {es0 es : NE} (he : (h, d, es0) ∈ ents) : (h, d, es) ∈ setE ents h es := List.mem_map.mpr ⟨_, he, if_pos rfl⟩
theorem hold_set {ents : Ents} (nd : (ents.map (·.1)).Nodup) {h : Str} {d : Addr} {es0 es : NE} (he : (h, d, es0) ∈ ents) (h' : Str) : hold (setE ents h es) h' = if h' = h then kys es else hold ents h' := by
  have nd' : ((setE ents h es).map (·.1)).Nodup := by rw [setE_names]; exact nd
  by_cases e : h' = h
  · rw [if_pos e, e]
    exact hold_mem nd' (setE_has he)
  · rw [if_neg e]
    by_cases m : h' ∈ ents.map (·.1)
    · obtain ⟨x, hx, rfl⟩ := List.mem_map.mp m
      rw [hold_mem nd hx]
      exact hold_mem nd' (List.mem_map.mpr ⟨x, hx, if_neg e⟩)
    · rw [hold_none m, hold_none (by rw [setE_names]; exact m)]
theorem cnt_set {h : Str} {d : Addr} {es0 es : NE} (u : Wish) : ∀ {ents : Ents}, (ents.map (·.1)).Nodup → (h, d, es0) ∈ ents → cnt (setE ents h es) u + (if u ∈ kys es0 then 1 else 0) = cnt ents u + (if u ∈ kys es then 1 else 0)
  | [], _, he => by cases he
  | a :: r, nd, he => by
    obtain ⟨n1, n2⟩ := List.nodup_cons.mp nd
    have e1 : cnt (setE (a :: r) h es) u = cnt (setE r h es) u + (if u ∈ kys (if a.1 = h then (a.1, a.2.1, es) else a).2.2 then 1 else 0) := by
      show List.countP _ (_ :: setE r h es) = _
      rw [List.countP_cons]
      by_cases q : u ∈ kys (if a.1 = h then (a.1, a.2.1, es) else a).2.2
      · rw [if_pos q, if_pos (decide_eq_true q)] <;> rfl
      · rw [if_neg q, if_neg (by simpa using q)] <;> rfl
    have e2 : cnt (a :: r) u = cnt r u + (if u ∈ kys a.2.2 then 1 else 0) := by
      show List.countP _ _ = _
      rw [List.countP_cons]
      by_cases q : u ∈ kys a.2.2
      · rw [if_pos q, if_pos (decide_eq_true q)] <;> rfl
      · rw [if_neg q, if_neg (by simpa using q)] <;> rfl
    rcases List.mem_cons.mp he with q | q
    · subst q
      rw [e1, e2, setE_id n1, if_pos rfl]
      show cnt r u + (if u ∈ kys es then 1 else 0) + (if u ∈ kys es0 then 1 else 0) = cnt r u + (if u ∈ kys es0 then 1 else 0) + (if u ∈ kys es then 1 else 0)
      omega
    · have ne : ¬ a.1 = h := fun x => n1 (List.mem_map.mpr ⟨_, q, x.symm⟩)
      rw [e1, e2, if_neg ne]
      have := cnt_set (es := es) u n2 q
      omega
theorem tot_set {h : Str} {d : Addr} {es0 es : NE} : ∀ {ents : Ents}, (ents.map (·.1)).Nodup → (h, d, es0) ∈ ents → tot (setE ents h es) + es0.length = tot ents + es.length
  | [], _, he => by cases he
  | a :: r, nd, he => by
    obtain ⟨n1, n2⟩ := List.nodup_cons.mp nd
    have e1 : tot (setE (a :: r) h es) = (if a.1 = h then (a.1, a.2.1, es) else a).2.2.length + tot (setE r h es) := rfl
    have e2 : tot (a :: r) = a.2.2.length + tot r := rfl
    rcases List.mem_cons.mp he with q | q
    · subst q
      rw [e1, e2, setE_id n1, if_pos rfl]
      show es.length + tot r + es0.length = es0.length + tot r + es.length
      omega
    · have ne : ¬ a.1 = h := fun x => n1 (List.mem_map.mpr ⟨_, q, x.symm⟩)
      rw [e1, e2, if_neg ne]
      have := tot_set (es := es) n2 q
      omega
theorem cnt_pos {ents : Ents} {u : Wish} : 0 < cnt ents u ↔ ∃ e ∈ ents, u ∈ kys e.2.2 := by
  unfold cnt
  rw [List.countP_pos_iff]
  constructor
  · rintro ⟨e, h1, h2⟩; exact ⟨e, h1, of_decide_eq_true h2⟩
  · rintro ⟨e, h1, h2⟩; exact ⟨e, h1, decide_eq_true h2⟩
theorem val_kvsE {ents : Ents} (nd : (ents.map (·.1)).Nodup) {e : Str × Addr × NE} (he : e ∈ ents) : valV (kvsE ents) (.inr e.1) = some (.ref e.2.1) := by
  induction ents with
  | nil => cases he
  | cons a r ih =>
    obtain ⟨n1, n2⟩ := List.nodup_cons.mp nd
    show valV ((Sum.inr a.1, V.ref a.2.1) :: kvsE r) _ = _
    rcases List.mem_cons.mp he with q | q
    · subst q
      exact valV_pos rfl
    · have ne : ¬ (Sum.inr a.1 : Key) = Sum.inr e.1 := fun x => n1 (List.mem_map.mpr ⟨_, q, (Sum.inr.inj x).symm⟩)
      rw [valV_neg ne]
      exact ih n2 q
theorem val_kvsE0 {ents : Ents} {h : Str} (n : ¬ h ∈ ents.map (·.1)) : valV (kvsE ents) (.inr h) = none := by
  induction ents with
  | nil => rfl
  | cons a r ih =>
    show valV ((Sum.inr a.1, V.ref a.2.1) :: kvsE r) _ = _
    have ne : ¬ (Sum.inr a.1 : Key) = Sum.inr h := fun x => n (by rw [← Sum.inr.inj x]; exact List.mem_cons_self ..)
    rw [valV_neg ne]
    exact ih fun x => n (List.mem_cons_of_mem _ x)
theorem put_same {ents : Ents} (nd : (ents.map (·.1)).Nodup) {e : Str × Addr × NE} (he : e ∈ ents) : putK (kvsE ents) (.inr e.1) (.ref e.2.1) = kvsE ents := by
  unfold putK
  rw [if_pos (by rw [valV_any, val_kvsE nd he]; rfl)]
  have : (kvsE ents).map (fun kv => if kv.1 = Sum.inr e.1 then (kv.1, V.ref e.2.1) else kv) = (kvsE ents).map id := List.map_congr_left fun kv hk => by
    obtain ⟨a, ha, rfl⟩ := List.mem_map.mp hk
    show (if (Sum.inr a.1 : Key) = Sum.inr e.1 then _ else _) = _
    by_cases q : a.1 = e.1
    · rw [if_pos (congrArg _ q)]
      have f1 := find_ent nd ha
      have f2 := find_ent nd he
      rw [q] at f1
      rw [f1] at f2
      cases f2
      rfl
    · rw [if_neg fun x => q (Sum.inr.inj x)]; rfl
  rw [this, List.map_id]
/-! ### the shelf -/
def shF (dl dm : Addr) : List (Str × V) := [("lists", .ref dl), ("many", .ref dm)]
structure ShAt (P : Program) (w : World) (K : PySem.W.Frag) (CS : Addr) (H : Hp) (sh dl dm : Addr) (ents : Ents) (many : NE) (n : Nat) : Prop where
  ins : ∃ dx, H sh = some (.ins CS dx (shF dl dm))
  dk : H dl = some (.dK (kvsE ents))
  dn : ∀ e ∈ ents, DN P w K H e.2.1 e.2.2
  dmN : DN P w K H dm many
  nh : (ents.map (·.1)).Nodup
  na : (ents.map (·.2.1)).Nodup
  nm : ∀ e ∈ ents, e.2.1 ≠ dm
  ok : ∀ e ∈ ents, ∀ u ∈ kys e.2.2, WOk u
  cn : ∀ x ∈ many, x.2.2 = .int (cnt ents x.1 : Nat)
  mk' : ∀ u, u ∈ kys many ↔ 0 < cnt ents u
  bd : ents.length ≤ n ∧ many.length ≤ n ∧ tot ents ≤ n
section
variable {P : Program} {w : World} {K : PySem.W.Frag} {CS : Addr} {H H' : Hp} {sh dl dm : Addr} {ents : Ents} {many : NE} {n : Nat}
theorem DN.kept {d : Addr} {xs : NE} (h : DN P w K H d xs) (k : Kept H H') (a : H' d = some (dN P w d xs)) : DN P w K H' d xs := ⟨a, fun x hx => k.dp (h.ks x hx), h.nd⟩
theorem DN.ex {d : Addr} {xs : NE} (h : DN P w K H d xs) (e : Ex H H') : DN P w K H' d xs := h.kept (.of e) (e _ _ h.at_)
theorem ShAt.ex (S : ShAt P w K CS H sh dl dm ents many n) (e : Ex H H') : ShAt P w K CS H' sh dl dm ents many n :=
  ⟨let ⟨dx, h⟩ := S.ins; ⟨dx, e _ _ h⟩, e _ _ S.dk, fun x hx => (S.dn x hx).ex e, S.dmN.ex e, S.nh, S.na, S.nm, S.ok, S.cn, S.mk', S.bd⟩
theorem ShAt.hnd (S : ShAt P w K CS H sh dl dm ents many n) (h : Str) : (hold ents h).Nodup := by
  by_cases m : h ∈ ents.map (·.1)
  · obtain ⟨e, he, rfl⟩ := List.mem_map.mp m
    rw [hold_mem S.nh he]
    exact (S.dn e he).nd
  · rw [hold_none m]; exact List.nodup_nil
theorem ShAt.hok (S : ShAt P w K CS H sh dl dm ents many n) (h : Str) : AllOk (hold ents h) := fun u hu => by
  obtain ⟨e, he, _, h2⟩ := mem_hold hu
  exact S.ok e he u h2
theorem ShAt.ook (S : ShAt P w K CS H sh dl dm ents many n) (h : Str) : AllOk (oth ents h) := fun u hu => by
  obtain ⟨x, _, h2⟩ := (oth_mem S.nh).mp hu
  exact S.hok x u h2
theorem ShAt.mok (S : ShAt P w K CS H sh dl dm ents many n) : AllOk (kys many) := fun u hu => by
  obtain ⟨e, he, h2⟩ := cnt_pos.mp ((S.mk' u).mp hu)
  exact S.ok e he u h2
theorem tot_mem {e : Str × Addr × NE} : ∀ {ents : Ents}, e ∈ ents → e.2.2.length ≤ tot ents
  | [], h => by cases h
  | a :: r, h => by
    show _ ≤ a.2.2.length + tot r
    rcases List.mem_cons.mp h with q | q
    · subst q; omega
    · have := tot_mem q; omega
theorem ShAt.val (S : ShAt P w K CS H sh dl dm ents many n) (u : Wish) : valN many u = if 0 < cnt ents u then some (.int (cnt ents u : Nat)) else none := by
  by_cases q : 0 < cnt ents u
  · rw [if_pos q]
    obtain ⟨v, hv⟩ := valN_ex ((S.mk' u).mpr q)
    obtain ⟨x, hx, e1, e2⟩ := valN_mem hv
    rw [hv, ← e2, S.cn x hx, e1]
  · rw [if_neg q]
    exact valN_no fun m => q ((S.mk' u).mp m)
/-- a holder's dict, and the counts, change -/
theorem ShAt.set (S : ShAt P w K CS H sh dl dm ents many n) {h : Str} {d : Addr} {es es' : NE} {many' : NE} {n' : Nat} (he : (h, d, es) ∈ ents) (k : Kept H H') (st : ∀ b o, H b = some o → b ≠ d → b ≠ dm → H' b = some o)
    (h1 : H' d = some (dN P w d es')) (h2 : H' dm = some (dN P w dm many')) (ks1 : ∀ x ∈ es', WA K H' (.ref x.2.1) x.1) (ks2 : ∀ x ∈ many', WA K H' (.ref x.2.1) x.1) (nd1 : (kys es').Nodup) (nd2 : (kys many').Nodup)
    (ok : ∀ u ∈ kys es', WOk u) (cn : ∀ x ∈ many', x.2.2 = .int (cnt (setE ents h es') x.1 : Nat)) (mk : ∀ u, u ∈ kys many' ↔ 0 < cnt (setE ents h es') u) (b1 : ents.length ≤ n') (b2 : many'.length ≤ n') (b3 : tot (setE ents h es') ≤ n') :
    ShAt P w K CS H' sh dl dm (setE ents h es') many' n' := by
  have D := S.dn _ he
  refine ⟨?_, ?_, fun e hm => ?_, ⟨h2, ks2, nd2⟩, by rw [setE_names]; exact S.nh, by rw [setE_addrs]; exact S.na, fun e hm => ?_, fun e hm => ?_, cn, mk, ⟨by unfold setE; rw [List.length_map]; exact b1, b2, b3⟩⟩
  · obtain ⟨dx, hx⟩ := S.ins
    refine ⟨dx, st _ _ hx (fun q => ?_) (fun q => ?_)⟩
    · subst q; have := D.at_; rw [hx] at this; cases this
    · subst q; have := S.dmN.at_; rw [hx] at this; cases this
  · rw [setE_kvs]
    refine st _ _ S.dk (fun q => ?_) (fun q => ?_)
    · subst q; have := D.at_; rw [S.dk] at this; cases this
    · subst q; have := S.dmN.at_; rw [S.dk] at this; cases this
  · rcases setE_mem S.nh he hm with q | ⟨q, ne⟩
    · subst q; exact ⟨h1, ks1, nd1⟩
    · refine (S.dn e q).kept k (st _ _ (S.dn e q).at_ (fun x => ?_) (S.nm e q))
      have f : ∀ {l : Ents}, (l.map (·.2.1)).Nodup → ∀ {a b : Str × Addr × NE}, a ∈ l → b ∈ l → a.2.1 = b.2.1 → a = b := by
        intro l
        induction l with
        | nil => intro _ a b ha; cases ha
        | cons c r ih =>
          intro nd a b ha hb e
          obtain ⟨n1, n2⟩ := List.nodup_cons.mp nd
          rcases List.mem_cons.mp ha with qa | qa
          · rcases List.mem_cons.mp hb with qb | qb
            · rw [qa, qb]
            · exact absurd (List.mem_map.mpr ⟨b, qb, by rw [← e, qa]⟩) n1
          · rcases List.mem_cons.mp hb with qb | qb
            · exact absurd (List.mem_map.mpr ⟨a, qa, by rw [e, qb]⟩) n1
            · exact ih n2 qa qb e
      have := f S.na q he x
      subst this
      exact ne rfl
  · rcases setE_mem S.nh he hm with q | ⟨q, ne⟩
    · subst q; exact S.nm (h, d, es) he
    · exact S.nm e q
  · rcases setE_mem S.nh he hm with q | ⟨q, ne⟩
    · subst q; exact ok
    · exact S.ok e q
/-- a new holder, without wishes -/
theorem ShAt.more (S : ShAt P w K CS H sh dl dm ents many n) {h : Str} {d : Addr} (nh : ¬ h ∈ ents.map (·.1)) (hd : H d = some (dN P w d [])) (fr : ∀ e ∈ ents, e.2.1 ≠ d) (nm : d ≠ dm) :
    ShAt P w K CS (upd H dl (.dK (putK (kvsE ents) (.inr h) (.ref d)))) sh dl dm (ents ++ [(h, d, [])]) many (n + 1) := by
  have k : Kept H (upd H dl (.dK (putK (kvsE ents) (.inr h) (.ref d)))) := .upd S.dk not_hard_dK
  have ne : ∀ {b : Addr} {φ}, H b = some (.ext φ) → b ≠ dl := fun hb q => by subst q; rw [S.dk] at hb; cases hb
  have ek : putK (kvsE ents) (.inr h) (.ref d) = kvsE (ents ++ [(h, d, [])]) := by
    rw [putK_new _ (val_kvsE0 nh)]
    unfold kvsE
    rw [List.map_append]; rfl
  have ec : ∀ u, cnt (ents ++ [(h, d, [])]) u = cnt ents u := fun u => by
    unfold cnt
    rw [List.countP_append]
    simp [kys]
  have et : ∀ l : Ents, tot (l ++ [(h, d, [])]) = tot l := fun l => by
    induction l with
    | nil => rfl
    | cons a r ih => show a.2.2.length + tot (r ++ _) = a.2.2.length + tot r; rw [ih]
  obtain ⟨b1, b2, b3⟩ := S.bd
  refine ⟨?_, by rw [upd_same, ek], fun e hm => ?_, S.dmN.kept k (by rw [upd_ne (ne S.dmN.at_)]; exact S.dmN.at_), ?_, ?_, fun e hm => ?_, fun e hm => ?_, fun x hx => by rw [ec]; exact S.cn x hx, fun u => by rw [ec]; exact S.mk' u, ⟨by rw [List.length_append]; show ents.length + 1 ≤ n + 1; omega, by omega, by rw [et]; omega⟩⟩
  · obtain ⟨dx, hx⟩ := S.ins
    exact ⟨dx, by rw [upd_ne (fun q => by subst q; rw [S.dk] at hx; cases hx)]; exact hx⟩
  · rcases List.mem_append.mp hm with q | q
    · exact (S.dn e q).kept k (by rw [upd_ne (ne (S.dn e q).at_)]; exact (S.dn e q).at_)
    · rw [List.mem_singleton] at q
      subst q
      exact ⟨by rw [upd_ne (ne hd)]; exact hd, fun x hx => (by cases hx), List.nodup_nil⟩
  · rw [List.map_append]
    refine List.nodup_append.mpr ⟨S.nh, by simp, fun a ha b hb q => ?_⟩
    have hb : b = h := by simpa using hb
    subst hb q
    exact nh ha
  · rw [List.map_append]
    refine List.nodup_append.mpr ⟨S.na, by simp, fun a ha b hb q => ?_⟩
    have hb : b = d := by simpa using hb
    subst hb q
    obtain ⟨e, he, q2⟩ := List.mem_map.mp ha
    exact fr e he q2
  · rcases List.mem_append.mp hm with q | q
    · exact S.nm e q
    · rw [List.mem_singleton] at q
      subst q
      exact nm
  · rcases List.mem_append.mp hm with q | q
    · exact S.ok e q
    · rw [List.mem_singleton] at q
      subst q
      exact fun u hu => by cases hu
theorem hold_more {h : Str} {d : Addr} (nh : ¬ h ∈ ents.map (·.1)) (h' : Str) : hold (ents ++ [(h, d, [])]) h' = hold ents h' := by
  unfold hold
  rw [List.find?_append]
  cases e : ents.find? fun e => decide (e.1 = h') with
  | some x => rfl
  | none =>
    by_cases q : h = h'
    · simp [q, kys]
    · simp [q]
/-- a holder without wishes goes -/
theorem ShAt.less (S : ShAt P w K CS H sh dl dm ents many n) {h : Str} {d : Addr} (he : (h, d, []) ∈ ents) :
    ShAt P w K CS (upd H dl (.dK (dropK (kvsE ents) (.inr h)))) sh dl dm (ents.filter fun e => decide (e.1 ≠ h)) many n := by
  have k : Kept H (upd H dl (.dK (dropK (kvsE ents) (.inr h)))) := .upd S.dk not_hard_dK
  have ne : ∀ {b : Addr} {φ}, H b = some (.ext φ) → b ≠ dl := fun hb q => by subst q; rw [S.dk] at hb; cases hb
  have ek : ∀ l : Ents, dropK (kvsE l) (.inr h) = kvsE (l.filter fun e => decide (e.1 ≠ h)) := fun l => by
    induction l with
    | nil => rfl
    | cons a r ih =>
      show List.filter _ ((Sum.inr a.1, V.ref a.2.1) :: kvsE r) = _
      by_cases q : a.1 = h
      · rw [List.filter_cons_of_neg (by simp [q]), List.filter_cons_of_neg (by simp [q])]
        exact ih
      · have q' : ¬ (Sum.inr a.1 : Key) = Sum.inr h := fun x => q (Sum.inr.inj x)
        rw [List.filter_cons_of_pos (by simpa using q), List.filter_cons_of_pos (by simpa using q)]
        exact congrArg _ ih
  have sub : ∀ {e}, e ∈ ents.filter (fun e => decide (e.1 ≠ h)) → e ∈ ents := fun hm => (List.mem_filter.mp hm).1
  have ec : ∀ u, cnt (ents.filter fun e => decide (e.1 ≠ h)) u = cnt ents u := fun u => by
    have f : ∀ l : Ents, (∀ e ∈ l, e.1 = h → kys e.2.2 = []) → cnt (l.filter fun e => decide (e.1 ≠ h)) u = cnt l u := fun l => by
      induction l with
      | nil => intro _; rfl
      | cons a r ih =>
        intro hh
        have ih' := ih fun e he => hh e (List.mem_cons_of_mem _ he)
        by_cases q : a.1 = h
        · rw [List.filter_cons_of_neg (by simp [q]), ih']
          show _ = List.countP _ (a :: r)
          rw [List.countP_cons_of_neg (by rw [hh a (List.mem_cons_self ..) q]; simp)] <;> rfl
        · rw [List.filter_cons_of_pos (by simpa using q)]
          show List.countP _ _ = List.countP _ _
          rw [List.countP_cons, List.countP_cons]
          exact congrArg (· + _) ih'
    refine f ents fun e he2 q => ?_
    have f1 := find_ent S.nh he2
    have f2 := find_ent S.nh he
    rw [q] at f1
    rw [f1] at f2
    cases f2
    rfl
  have et : ∀ l : Ents, tot (l.filter fun e => decide (e.1 ≠ h)) ≤ tot l := fun l => by
    induction l with
    | nil => exact Nat.le_refl _
    | cons a r ih =>
      rw [List.filter_cons]
      split
      · show a.2.2.length + tot _ ≤ a.2.2.length + tot r; omega
      · show _ ≤ a.2.2.length + tot r; omega
  obtain ⟨b1, b2, b3⟩ := S.bd
  refine ⟨?_, by rw [upd_same, ek], fun e hm => ?_, S.dmN.kept k (by rw [upd_ne (ne S.dmN.at_)]; exact S.dmN.at_), ?_, ?_, fun e hm => S.nm e (sub hm), fun e hm => S.ok e (sub hm), fun x hx => by rw [ec]; exact S.cn x hx, fun u => by rw [ec]; exact S.mk' u, ⟨?_, b2, by have := et ents; omega⟩⟩
  · obtain ⟨dx, hx⟩ := S.ins
    exact ⟨dx, by rw [upd_ne (fun q => by subst q; rw [S.dk] at hx; cases hx)]; exact hx⟩
  · exact (S.dn e (sub hm)).kept k (by rw [upd_ne (ne (S.dn e (sub hm)).at_)]; exact (S.dn e (sub hm)).at_)
  · exact S.nh.sublist (List.filter_sublist.map _)
  · exact S.na.sublist (List.filter_sublist.map _)
  · have := List.length_filter_le (fun e : Str × Addr × NE => decide (e.1 ≠ h)) ents; omega
theorem hold_less {h : Str} (nd : (ents.map (·.1)).Nodup) (h0 : hold ents h = []) (h' : Str) : hold (ents.filter fun e => decide (e.1 ≠ h)) h' = hold ents h' := by
  have nd' : ((ents.filter fun e => decide (e.1 ≠ h)).map (·.1)).Nodup := nd.sublist (List.filter_sublist.map _)
  by_cases e : h' = h
  · subst e
    rw [h0]
    refine hold_none fun m => ?_
    obtain ⟨x, hx, q⟩ := List.mem_map.mp m
    exact of_decide_eq_true (List.mem_filter.mp hx).2 q
  · by_cases m : h' ∈ ents.map (·.1)
    · obtain ⟨x, hx, rfl⟩ := List.mem_map.mp m
      rw [hold_mem nd hx]
      exact hold_mem nd' (List.mem_filter.mpr ⟨hx, decide_eq_true e⟩)
    · rw [hold_none m]
      refine hold_none fun q => ?_
      obtain ⟨x, hx, q⟩ := List.mem_map.mp q
      exact m (List.mem_map.mpr ⟨x, (List.mem_filter.mp hx).1, q⟩)
end
end K33
/-! K10: Shelf.__init__, greatest, wishes. -/
namespace K33
open PySem PySem.Spec PyProof.Rows L2 Evl
section
variable {P : Program} {w : World} {K : PySem.W.Frag} {σ : L2.St} {H : Hp} {D : Ends} {tu tz : TS} {te ta : TE}
/-- over the keys of a dict, which is locked meanwhile -/
theorem s_forK {d : Addr} {kvs : List (Key × V)} {j : Nat} (hd : H d = some (.dK kvs)) (h : ∀ od, Ev te σ (upd H d (.frz od (.dK kvs))) (.ref d)) (Pv : Obj → Nat → L2.St → Hp → Prop)
    (h0 : ∀ od H1, Ex (upd H d (.frz od (.dK kvs))) H1 → Pv od 0 σ H1) (hl : ∀ od i σ' H', Pv od i σ' H' → H' d = some (.frz od (.dK kvs)))
    (hs : ∀ od i k v σ' H', kvs[i]? = some (k, v) → Pv od i σ' H' → tu { nx := Pv od (i + 1), rt := fun v H' => H' d = some (.frz od (.dK kvs)) ∧ D.rt v (upd H' d (.dK kvs)), bk := fun σ' H' => H' d = some (.frz od (.dK kvs)) ∧ D.nx σ' (upd H' d (.dK kvs)), ct := Pv od (i + 1) } (σ'.set j (some (kV k))) H')
    (hz : ∀ od σ' H', Pv od kvs.length σ' H' → D.nx σ' (upd H' d (.dK kvs))) : tLock (tFor (iKeys te) (gName j) tu) D σ H :=
  ⟨d, .dK kvs, hd, trivial, fun od => (h od) _ (Ex.refl _) _ fun H1 e1 => ⟨d, od, rfl, .inl ⟨kvs, e1 _ _ upd_same, for_keys (Pv od) (h0 od H1 e1) (hl od) (fun i k v σ' H' hk p => hs od i k v σ' H' hk p) (fun σ' H' p => ⟨hl od _ σ' H' p, hz od σ' H' p⟩)⟩⟩⟩
theorem q_forK {d : Addr} {kvs : List (Key × V)} {j : Nat} (hd : H d = some (.dK kvs)) (h : ∀ od, Ev te σ (upd H d (.frz od (.dK kvs))) (.ref d)) (Pv : Obj → Nat → L2.St → Hp → Prop)
    (h0 : ∀ od H1, Ex (upd H d (.frz od (.dK kvs))) H1 → Pv od 0 σ H1) (hl : ∀ od i σ' H', Pv od i σ' H' → H' d = some (.frz od (.dK kvs)))
    (hs : ∀ od i k v σ' H', kvs[i]? = some (k, v) → Pv od i σ' H' → tu { nx := Pv od (i + 1), rt := fun v H' => H' d = some (.frz od (.dK kvs)) ∧ D.rt v (upd H' d (.dK kvs)), bk := fun σ' H' => H' d = some (.frz od (.dK kvs)) ∧ tz D σ' (upd H' d (.dK kvs)), ct := Pv od (i + 1) } (σ'.set j (some (kV k))) H')
    (hz : ∀ od σ' H', Pv od kvs.length σ' H' → tz D σ' (upd H' d (.dK kvs))) : tSeq (tLock (tFor (iKeys te) (gName j) tu)) tz D σ H :=
  s_forK (D := { D with nx := tz D }) hd h Pv h0 hl hs hz
theorem s_ext {l : Addr} {xs ys : List V} (hl : H l = some (.lst xs)) (ha : Ev ta σ H (.ref l)) (h : EvL te σ H ys) (hz : xs.length + ys.length ≤ 100000) (k : ∀ H1, Ex H H1 → D.nx σ (upd H1 l (.lst (xs ++ ys)))) :
    tDrop (tBM K "list" rExtend ta (tCons te tNil)) D σ H := ha H (Ex.refl H) _ fun H1 e1 =>
  ⟨Or.inl ⟨rfl, xs, sq_of (e1 l _ hl)⟩, h H1 e1 _ fun p H2 hp e2 h2 => ⟨l, p, xs, ys, rfl, rfl, e2 l _ (e1 l _ hl), h2, sz_of hz, k H2 (e1.trans e2)⟩⟩
theorem el_listN {d : Addr} {es : NE} (h : Ev te σ H (.ref d)) (dn : DN P w K H d es) : EvL (tCB (rListN P w K) (tCons te tNil)) σ H (es.map fun x => V.ref x.2.1) := fun H1 e Q q =>
  h H1 e _ fun H2 e2 => ⟨d, es, rfl, DN.ex dn (e.trans e2), fun p hp => q p _ (fresh_back e2 hp) (e2.trans (Ex.new hp)) upd_same⟩
theorem DN.was {d : Addr} {es : NE} (dn : DN P w K H d es) : WAs K H (es.map fun x => V.ref x.2.1) (kys es) := by
  have all : ∀ l : NE, (∀ x ∈ l, WA K H (.ref x.2.1) x.1) → WAs K H (l.map fun x => V.ref x.2.1) (l.map (·.1)) := by
    intro l
    induction l with
    | nil => intro _; exact .nil
    | cons y l ih => intro h; exact .cons (h y (List.mem_cons_self ..)) (ih fun x hx => h x (List.mem_cons_of_mem _ hx))
  exact all es dn.ks
theorem s_retGr {E : XK} {xs : List V} {ws : List Wish} (h : EvL te σ H xs) (was : WAs K H xs ws) (ok : AllOk ws) (hz : ws.length ≤ 30000)
    (k : ∀ p gs H', H p = none → Ex H H' → LN K H' p gs → IsGr gs ws → gs.length ≤ ws.length → D.rt (.ref p) H') : tRet (tCall (spGr K) [] E (tCons te tNil)) D σ H :=
  h H (Ex.refl H) _ fun p H1 hp e h1 => ⟨p, ws, rfl, ⟨xs, sq_of h1, was.ex e⟩, ok, hz, fun r gs H2 hr e2 ln gr le => k r gs H2 (fresh_back e hr) (e.trans e2) ln gr le⟩
theorem sorted_rank {f p : Addr} {rs : List V} {ws : List Wish} {Q : VK} (hl : SqL K H p rs) (was : WAs K H rs ws) (ok : AllOk ws) (k : ∀ r gs H', H r = none → Ex H H' → LN K H' r gs → gs.Perm ws → Q (.ref r) H') : rSortedKey K f (spRank K) [.ref p] [.ref f] H Q := by
  refine ⟨p, _, ws.map kDs, rfl, rfl, hl, by rw [List.length_map, was.length], fun d hd => ?_, fun d hd e he => ?_, fun i x d hx hd H3 e3 QQ qq => ?_, fun ys r H3 pm e3 hr2 hr3 => ?_⟩
  · obtain ⟨x, hx, rfl⟩ := List.mem_map.mp hd
    exact ⟨kDs_depth x, _, rfl⟩
  · obtain ⟨x, hx, rfl⟩ := List.mem_map.mp hd
    obtain ⟨y, hy, rfl⟩ := List.mem_map.mp he
    exact kDs_alike x y
  · obtain ⟨o, ho, wo⟩ := was.get hx
    rw [List.getElem?_map, ho] at hd
    cases hd
    exact ⟨x, o, rfl, wo.ex e3, ok o (List.mem_of_getElem? ho), fun v H4 e4 dk => qq v H4 e4 dk⟩
  · obtain ⟨gs, pg, dg⟩ := DpAll.perm pm was
    exact k r gs _ hr2 (e3.trans (Ex.new hr3)) ⟨ys, upd_same, dg.ex (e3.trans (Ex.new hr3))⟩ pg
theorem isGr_ok {gs ws : List Wish} (g : IsGr gs ws) (ok : AllOk ws) : AllOk gs := fun u hu => ok u (g.sub hu)
end
theorem oth_snoc (l : Ents) (e : Str × Addr × NE) (x : Str) : oth (l ++ [e]) x = oth l x ++ if e.1 ≠ x then kys e.2.2 else [] := by
  unfold oth
  rw [List.filter_append, List.flatMap_append]
  by_cases q : e.1 = x
  · rw [if_neg (fun h => h q), List.filter_cons_of_neg (by simp [q])]; rfl
  · rw [if_pos q, List.filter_cons_of_pos (by simpa using q)]
    simp
theorem tot_take (l : Ents) (i : Nat) : tot (l.take i) ≤ tot l := by
  induction l generalizing i with
  | nil => simp
  | cons a r ih =>
    cases i with
    | zero => exact Nat.zero_le _
    | succ i =>
      show a.2.2.length + tot (r.take i) ≤ a.2.2.length + tot r
      have := ih i
      omega
section
variable {P : Program} {w : World} {K : PySem.W.Frag} {mg : Str → Option Value} {base : Heap} {CS CP f : Addr} {fd : FuncData}
def spShInit (P : Program) (w : World) (CS : Addr) : Sp := fun vs H Q _ => ∃ p dx, vs = [.ref p] ∧ H p = some (.ins CS dx []) ∧ ∀ H' dl dm, H dl = none → H dm = none → dl ≠ dm → H' p = some (.ins CS dx (shF dl dm)) → H' dl = some (.dK []) → H' dm = some (dN P w dm []) →
  (∀ b o, H b = some o → b ≠ p → H' b = some o) → Q .non H'
theorem ok_Shelf_init (T : Txt K mg CS CP) (F : FnP K "__init__" "Shelf.__init__" s_Shelf_init f fd) : FnOk P w K mg base CX0 1 f fd ["self"] (spShInit P w CS) := by
  refine F.ok sc_Shelf_init (fun vs H Q E h => ?_) (fun cdv A outer s H vs Q E hr h => ?_)
  · obtain ⟨p, dx, rfl, _⟩ := h; rfl
  obtain ⟨p, dx, rfl, hp, q⟩ := h
  refine ⟨_, PSs.nox (pss_cons (ps_fld (pv 0) pe_dnewK rfl)
      (pss_one (ps_fld (pv 0) pe_dnewN rfl))), ?_⟩
  refine fun dl hdl => ⟨_, rfl, p, CS, dx, [], rfl, by rw [upd_ne (ne_of_none hp hdl)]; exact hp, T.clShelf, T.a_lists, by decide, ?_⟩
  refine fun dm hdm => ⟨_, rfl, p, CS, dx, _, rfl, by rw [upd_ne (fun e => by subst e; rw [upd_same] at hdm; cases hdm), upd_same], T.clShelf, T.a_many, (by show 1 < 1000; decide), ?_⟩
  have n1 : dm ≠ p := fun e => by subst e; rw [upd_same] at hdm; cases hdm
  have n0 : dl ≠ p := fun e => ne_of_none hp hdl e.symm
  rw [upd_ne n1] at hdm
  have n2 : dm ≠ dl := fun e => by subst e; rw [upd_same] at hdm; cases hdm
  rw [upd_ne n2] at hdm
  refine q _ dl dm hdl hdm (Ne.symm n2) upd_same ?_ ?_ fun b o hb ne => ?_
  · rw [upd_ne n0, upd_ne (Ne.symm n2), upd_ne n0, upd_same]
  · rw [upd_ne n1, upd_same]; rfl
  · have m1 : b ≠ dl := ne_of_none hb hdl
    have m2 : b ≠ dm := ne_of_none hb hdm
    rw [upd_ne ne, upd_ne m2, upd_ne ne, upd_ne m1]
    exact hb
def spGreat (P : Program) (w : World) (K : PySem.W.Frag) (CS : Addr) : Sp := fun vs H Q _ => ∃ sh dl dm ents many n, ShAt P w K CS H sh dl dm ents many n ∧ n ≤ 1000 ∧
  ((vs = [.ref sh, .non] ∧ ∀ p gs H', H p = none → Ex H H' → LN K H' p gs → AllOk gs → gs.length ≤ n → Q (.ref p) H') ∨
   ∃ x, vs = [.ref sh, .str x] ∧ HolderOk x ∧ ∀ p gs H', H p = none → Ex H H' → LN K H' p gs → IsGr gs (oth ents x) → gs.length ≤ n → Q (.ref p) H')
theorem ok_Shelf_greatest (T : Txt K mg CS CP) (c_look_holder : Cal P w K mg base "look_holder" 1 ["holder"] (spR rHolder)) (c_greatest_of : Cal P w K mg base "greatest_of" 4 ["wishes"] (spGr K))
    (F : FunD K "greatest" "Shelf.greatest" (defArgs s_Shelf_greatest) (defBody s_Shelf_greatest) (defScope s_Shelf_greatest) [.non] [] f fd) : FnOk P w K mg base CX0 5 f fd ["self", "beside"] (spGreat P w K CS) := by
  refine F.ok sc_Shelf_greatest (fun vs H Q E h => ?_) (fun cdv A outer s H vs Q E hr h => ?_)
  · obtain ⟨sh, dl, dm, ents, many, n, _, _, ⟨rfl, _⟩ | ⟨x, rfl, _⟩⟩ := h <;> rfl
  have hu := hu_of hr
  refine ⟨_, PSs.nox (pss_cons (ps_if (pt_cmpR op_isN1 (pv 1) pe_non (nomark _)) (pss_one (ps_ret (pe_c c_greatest_of hr (by decide) rfl (pa_cons (pe_callTy (call_listN rfl) (by rfl) T.n_list bt_list (pa_cons (pe_fld (pv 0) rfl) pa_nil)) pa_nil)))) pss_nil)
      (pss_cons (ps_expr (pe_c c_look_holder hr (by decide) rfl (pa_cons (pv 1) pa_nil)))
      (pss_cons (ps_set (i := 2) sc_Shelf_greatest.nd rfl (Or.inl rfl) (pe_lst pa_nil))
      (pss_cons (ps_lock (ps_for PassesOwn.never rfl (pi_keys (pe_fld (pv 0) rfl)) (pg_name (i := 3) sc_Shelf_greatest.nd rfl (Or.inl rfl)) (pss_one (ps_if (pt_cmpR op_ne (pv 3) (pv 1) (nomark _)) (pss_one (ps_expr (pe_bm PySem.F.plainAttrs_list PySem.F.slot_list_extend PySem.F.type_list_extend mt_extend (pv 2) (pa_cons (pe_callTy (call_listN rfl) (by rfl) T.n_list bt_list (pa_cons (pe_dget hu (pe_fld (pv 0) rfl) (pv 3) (fun _ _ => rfl)) pa_nil)) pa_nil)))) pss_nil))))
      (pss_one (ps_ret (pe_c c_greatest_of hr (by decide) rfl (pa_cons (pv 2) pa_nil)))))))), ?_⟩
  obtain ⟨sh, dl, dm, ents, many, n, S, hn, h⟩ := h
  obtain ⟨dx, hsh⟩ := S.ins
  obtain ⟨b1, b2, b3⟩ := S.bd
  rcases h with ⟨rfl, q⟩ | ⟨x, rfl, hx, q⟩
  · refine q_when (b := true) (et_test (ev_op (ev_var rfl) ev_c (rv_isN rfl))) (fun _ H1 e1 => ?_) (fun h => by cases h)
    have D1 := DN.ex S.dmN e1
    refine s_retGr (el_listN (ev_fld (ev_var rfl) (e1 _ _ hsh) T.clShelf T.a_many rfl) D1) D1.was S.mok (by show (many.map _).length ≤ _; rw [List.length_map]; omega) fun p gs H2 hp e2 ln gr le => ?_
    exact q p gs H2 (fresh_back e1 hp) (e1.trans e2) ln (isGr_ok gr S.mok) (by have : (kys many).length = many.length := List.length_map ..; omega)
  · refine q_when (b := false) (et_test (ev_op (ev_var rfl) ev_c (rv_isN rfl))) (fun h => by cases h) fun _ H1 e1 => ?_
    refine q_drop (v := .non) (ev_c1 (ea_cons (ev_var rfl) ea_nil) fun H2 e2 => ⟨x, rfl, hx, rfl⟩) fun H2 e2 => ?_
    refine q_asgL (el_lst ea_nil (Nat.zero_le _)) fun l H3 hl e3 h3 => ?_
    have e13 : Ex H H3 := (e1.trans e2).trans e3
    have hl0 : H l = none := fresh_back (e1.trans e2) hl
    have ld : l ≠ dl := fun e => by subst e; rw [S.dk] at hl0; cases hl0
    have hBdl : ∀ od, Ex (upd H dl (.frz od (.dK (kvsE ents)))) (upd H3 dl (.frz od (.dK (kvsE ents)))) := fun od a o ha => by
      by_cases e : a = dl
      · subst e; rw [upd_same] at ha ⊢; exact ha
      · rw [upd_ne e] at ha ⊢; exact e13 _ _ ha
    have hins : ∀ od, upd H dl (.frz od (.dK (kvsE ents))) sh = some (.ins CS dx (shF dl dm)) := fun od => by
      rw [upd_ne (fun e => by subst e; rw [S.dk] at hsh; cases hsh)]; exact hsh
    refine q_forK (e13 _ _ S.dk) (fun od => ev_fld (ev_var rfl) (hBdl od _ _ (hins od)) T.clShelf T.a_lists rfl)
      (fun od i σ' H' => (∃ o, σ' = [some (.ref sh), some (.str x), some (.ref l), o]) ∧ Ex (upd H dl (.frz od (.dK (kvsE ents)))) H' ∧ ∃ rs, H' l = some (.lst rs) ∧ WAs K H rs (oth (ents.take i) x))
      (fun od H4 e4 => ⟨⟨_, rfl⟩, (hBdl od).trans e4, [], e4 _ _ (by rw [upd_ne ld]; exact h3), .nil⟩) (fun od i σ' H' p => p.2.1 _ _ upd_same) (fun od i k v σ' H' hk p => ?_) fun od σ' H' p => ?_
    · obtain ⟨⟨o, rfl⟩, e4, rs, hrs, was⟩ := p
      obtain ⟨e, he, hek⟩ := List.getElem?_map .. ▸ hk |> Option.map_eq_some_iff.mp
      cases hek
      have hm : e ∈ ents := List.mem_of_getElem? he
      have fl : ∀ {H5}, Ex H' H5 → Ev (tFld K (tVar 0) "lists") [some (.ref sh), some (.str x), some (.ref l), some (.str e.1)] H5 (.ref dl) := fun e5 => ev_fld (ev_var rfl) (e5 _ _ (e4 _ _ (hins od))) T.clShelf T.a_lists rfl
      have lz : rs.length ≤ n := by rw [was.length]; have := oth_len (ents.take i) x; have := tot_take ents i; omega
      refine s_when (et_test (ev_op (ev_var rfl) (ev_var rfl) (rv_ne rfl))) (fun hb H5 e5 => ?_) (fun hb H5 e5 => ?_)
      · have ne : e.1 ≠ x := fun q => by rw [q] at hb; simp at hb; exact hb rfl
        have dB : DN P w K (upd H dl (.frz od (.dK (kvsE ents)))) e.2.1 e.2.2 := (S.dn e hm).kept (.upd S.dk not_hard_dK) (by rw [upd_ne (fun q => by have := (S.dn e hm).at_; rw [q, S.dk] at this; cases this)]; exact (S.dn e hm).at_)
        have d5 := DN.ex dB (e4.trans e5)
        refine s_ext (e5 _ _ hrs) (ev_var rfl) (el_listN (ev_dget (v := .ref e.2.1) (fl e5) (ev_var rfl) ?_) d5) ?_ fun H6 e6 => ?_
        · refine .inl ⟨kvsE ents, .inr e.1, .inr ⟨od, (e4.trans e5) _ _ upd_same⟩, rfl, (val_kvsE S.nh hm).symm⟩
        · rw [List.length_map]; have := tot_mem hm; omega
        · refine ⟨⟨_, rfl⟩, Ex.mut ((e4.trans e5).trans e6) (by rw [upd_ne ld]; exact hl0), _, upd_same, ?_⟩
          rw [take_of he, oth_snoc, if_pos ne]
          unfold WAs
          rw [List.map_append]
          exact DpAll.append was (S.dn e hm).was
      · have eq : e.1 = x := V.str.inj (by simpa using hb : kV (.inr e.1) = V.str x)
        refine ⟨⟨_, rfl⟩, e4.trans e5, rs, e5 _ _ hrs, ?_⟩
        rw [take_of he, oth_snoc, if_neg (fun h => h eq), List.append_nil]
        exact was
    · obtain ⟨⟨o, rfl⟩, e4, rs, hrs, was⟩ := p
      rw [show ents.take (kvsE ents).length = ents from by unfold kvsE; rw [List.length_map, List.take_length]] at was
      have eF : Ex H (upd H' dl (.dK (kvsE ents))) := fun a o ha => by
        by_cases e : a = dl
        · subst e; rw [upd_same, ← ha]; exact S.dk.symm
        · rw [upd_ne e]; exact e4 _ _ (by rw [upd_ne e]; exact ha)
      have hF : upd H' dl (.dK (kvsE ents)) l = some (.lst rs) := by rw [upd_ne ld]; exact hrs
      refine ⟨_, rfl, l, oth ents x, rfl, ⟨rs, sq_of hF, was.ex eF⟩, S.ook x, by have := oth_len ents x; omega, fun p gs H5 hp e5 ln gr le => ?_⟩
      exact q p gs H5 (fresh_back eF hp) (eF.trans e5) ln gr (by have := oth_len ents x; omega)
def spShWishes (P : Program) (w : World) (K : PySem.W.Frag) (CS : Addr) : Sp := fun vs H Q _ => ∃ sh dl dm ents many n x, vs = [.ref sh, .str x] ∧ ShAt P w K CS H sh dl dm ents many n ∧ n ≤ 1000 ∧ HolderOk x ∧
  ∀ p us H', H p = none → Ex H H' → LN K H' p us → us.Perm (hold ents x) → us.length ≤ n → Q (.ref p) H'
theorem dget2_hold {P : Program} {w : World} {K : PySem.W.Frag} {CS : Addr} {H H1 : Hp} {sh dl dm : Addr} {ents : Ents} {many : NE} {n : Nat} (S : ShAt P w K CS H sh dl dm ents many n) (e1 : Ex H H1) {d0 : Addr} (h0 : H1 d0 = none) (x : Str) :
    ∃ d es, (valV (kvsE ents) (.inr x)).getD (.ref d0) = .ref d ∧ DN P w K (upd H1 d0 (dN P w d0 [])) d es ∧ kys es = hold ents x ∧ (((x, d, es) ∈ ents) ∨ (d = d0 ∧ es = [] ∧ ¬ x ∈ ents.map (·.1))) := by
  by_cases m : x ∈ ents.map (·.1)
  · obtain ⟨e, he, rfl⟩ := List.mem_map.mp m
    refine ⟨e.2.1, e.2.2, by rw [val_kvsE S.nh he]; rfl, DN.ex (S.dn e he) (e1.trans (Ex.new h0)), (hold_mem S.nh he).symm, .inl he⟩
  · exact ⟨d0, [], by rw [val_kvsE0 m]; rfl, ⟨upd_same, fun x hx => (by cases hx), List.nodup_nil⟩, by rw [hold_none m]; rfl, .inr ⟨rfl, rfl, m⟩⟩
theorem hold_len {ents : Ents} (x : Str) : (hold ents x).length ≤ tot ents := by
  unfold hold
  split
  · rename_i e h
    have : (kys e.2.2).length = e.2.2.length := List.length_map ..
    rw [this]
    exact tot_mem (List.mem_of_find?_eq_some h)
  · exact Nat.zero_le _
theorem ok_Shelf_wishes (T : Txt K mg CS CP) (c_look_holder : Cal P w K mg base "look_holder" 1 ["holder"] (spR rHolder)) (c_rank : Cal P w K mg base "rank" 1 ["wish"] (spRank K))
    (F : FnP K "wishes" "Shelf.wishes" s_Shelf_wishes f fd) : FnOk P w K mg base CX0 5 f fd ["self", "holder"] (spShWishes P w K CS) := by
  refine F.ok sc_Shelf_wishes (fun vs H Q E h => ?_) (fun cdv A outer s H vs Q E hr h => ?_)
  · obtain ⟨sh, dl, dm, ents, many, n, x, rfl, _⟩ := h; rfl
  have hu := hu_of hr
  refine ⟨_, PSs.nox (pss_cons (ps_expr (pe_c c_look_holder hr (by decide) rfl (pa_cons (pv 1) pa_nil)))
      (pss_one (ps_ret (pe_callBK (cr_sortedKey c_rank.ok (hr.mono (by decide)) c_rank.bi) (by rfl) T.n_sorted bt_sorted (pa_cons (pe_callTy (call_listN rfl) (by rfl) T.n_list bt_list (pa_cons (pe_dget2 hu (pe_fld (pv 0) rfl) (pv 1) pe_dnewN ⟨rfl, rfl, rfl, rfl⟩) pa_nil)) pa_nil) (pk_cons (pe_glob (v := .ref c_rank.f) rfl c_rank.mg rfl) pk_nil))))), ?_⟩
  obtain ⟨sh, dl, dm, ents, many, n, x, rfl, S, hn, hx, q⟩ := h
  obtain ⟨dx, hsh⟩ := S.ins
  obtain ⟨b1, b2, b3⟩ := S.bd
  refine q_drop (v := .non) (ev_c1 (ea_cons (ev_var rfl) ea_nil) fun H2 e2 => ⟨x, rfl, hx, rfl⟩) fun H1 e1 => ?_
  have hk := e1 _ _ S.dk
  refine ⟨_, rfl, sh, CS, dx, _, .ref dl, rfl, e1 _ _ hsh, T.clShelf, T.a_lists, rfl, dl, rfl, .inl ⟨_, .inl hk⟩, _, rfl, fun d0 h0 => ?_⟩
  obtain ⟨d, es, ed, dn, hes, _⟩ := dget2_hold (P := P) (w := w) S e1 h0 x
  have n0 : dl ≠ d0 := ne_of_none hk h0
  refine ⟨_, DGet.k (k := .inr x) (by rw [upd_ne n0]; exact hk), d, es, congrArg (fun z => [z]) ed, dn, fun p hp => ?_⟩
  have e2 : Ex H (upd (upd H1 d0 (dN P w d0 [])) p (.lst (es.map fun x => V.ref x.2.1))) := (e1.trans (Ex.new h0)).trans (Ex.new hp)
  refine sorted_rank (sq_of upd_same) (dn.was.ex (Ex.new hp)) (by rw [hes]; exact S.hok x) fun r gs H' hr2 e3 ln pm => ?_
  rw [hes] at pm
  exact q r gs H' (fresh_back e2 hr2) (e2.trans e3) ln pm (by have := pm.length_eq; have := hold_len (ents := ents) x; omega)
end
end K33
/-! K11: Shelf.put, Shelf.take. -/
namespace K33
open PySem PySem.Spec PyProof.Rows L2 Evl
/-- what stands stays, but for S and what is laid by .ext -/
def Fr (S : List Addr) (H H' : Hp) : Prop := ∀ b o, H b = some o → b ∉ S → (∀ φ, o ≠ .ext φ) → H' b = some o
theorem Fr.refl {S : List Addr} {H : Hp} : Fr S H H := fun _ _ h _ _ => h
theorem Fr.trans {S : List Addr} {H H' H2 : Hp} (a : Fr S H H') (b : Fr S H' H2) : Fr S H H2 := fun x o h n e => b x o (a x o h n e) n e
theorem Fr.of {S : List Addr} {H H' : Hp} (e : Ex H H') : Fr S H H' := fun b o h _ _ => e b o h
theorem Fr.upd {S : List Addr} {H : Hp} {d : Addr} {o : HO} (h : d ∈ S) : Fr S H (L2.upd H d o) := fun b u hb n _ => by
  rw [upd_ne (fun e => n (by rw [e]; exact h))]; exact hb
theorem Fr.updE {S : List Addr} {H : Hp} {d : Addr} {φ : Heap → Prop} {o : HO} (h : H d = some (.ext φ)) : Fr S H (L2.upd H d o) := fun b u hb n ne => by
  rw [upd_ne (fun e => by subst e; rw [h] at hb; cases hb; exact ne _ rfl)]; exact hb
theorem Fr.mono {S S' : List Addr} {H H' : Hp} (f : Fr S H H') (h : ∀ b ∈ S, b ∈ S') : Fr S' H H' := fun b o hb n e => f b o hb (fun m => n (h b m)) e
theorem Fr.kept {S : List Addr} {H H' : Hp} (f : Fr S H H') (h : ∀ b ∈ S, ∃ o, H b = some o ∧ ¬ Hard o) : Kept H H' := fun b o hb hh => f b o hb (fun m => by
  obtain ⟨u, hu, n⟩ := h b m
  rw [hb] at hu; cases hu; exact n hh) (fun φ e => by subst e; exact hh)
theorem kys_put {es : NE} {wi : Wish} {t : Addr} {v : V} (nw : wi ∉ kys es) : kys (putN es wi t v) = kys es ++ [wi] := by
  have h := putN_keys es wi t v
  rw [if_neg (show ¬ wi ∈ es.map (·.1) from nw)] at h
  exact h
theorem upd_self {H : Hp} {d : Addr} {o : HO} (h : H d = some o) : L2.upd H d o = H := by
  funext b
  by_cases e : b = d
  · subst e; rw [upd_same, h]
  · rw [upd_ne e]
section
variable {P : Program} {w : World} {K : PySem.W.Frag} {CS : Addr} {H H' : Hp} {sh dl dm : Addr} {ents : Ents} {many : NE} {n : Nat}
theorem ShAt.mono (S : ShAt P w K CS H sh dl dm ents many n) {n' : Nat} (h : n ≤ n') : ShAt P w K CS H sh dl dm ents many n' :=
  ⟨S.ins, S.dk, S.dn, S.dmN, S.nh, S.na, S.nm, S.ok, S.cn, S.mk', by obtain ⟨a, b, c⟩ := S.bd; exact ⟨by omega, by omega, by omega⟩⟩
/-- the holder's list comes into the shelf, if it is not there -/
theorem ShAt.enter (S : ShAt P w K CS H sh dl dm ents many n) {x : Str} {d : Addr} {es : NE} (hd : DN P w K H d es) (h : (x, d, es) ∈ ents ∨ ((∀ e ∈ ents, e.2.1 ≠ d) ∧ d ≠ dm ∧ es = [] ∧ ¬ x ∈ ents.map (·.1))) :
    ∃ ents0, ShAt P w K CS (upd H dl (.dK (putK (kvsE ents) (.inr x) (.ref d)))) sh dl dm ents0 many (n + 1) ∧ (x, d, es) ∈ ents0 ∧ tot ents0 ≤ n ∧ ∀ h, hold ents0 h = hold ents h := by
  rcases h with h | ⟨h1, h2, h3, h4⟩
  · refine ⟨ents, ?_, h, S.bd.2.2, fun _ => rfl⟩
    rw [put_same S.nh h, upd_self S.dk]
    exact S.mono (Nat.le_succ n)
  · subst h3
    have et : ∀ l : Ents, tot (l ++ [(x, d, [])]) = tot l := fun l => by
      induction l with
      | nil => rfl
      | cons a r ih => show a.2.2.length + tot (r ++ _) = a.2.2.length + tot r; rw [ih]
    exact ⟨_, S.more h4 hd.at_ h1 h2, List.mem_append_right _ (List.mem_singleton.mpr rfl), by rw [et]; exact S.bd.2.2, hold_more h4⟩
/-- a wish comes to a holder -/
theorem ShAt.add (S : ShAt P w K CS H sh dl dm ents many n) {x : Str} {d t : Addr} {es : NE} {wi : Wish} {v : V} (he : (x, d, es) ∈ ents) (nw : wi ∉ kys es) (ok : WOk wi) (wa : WA K H (.ref t) wi) (hn : tot ents + 1 ≤ n) (hm : many.length + 1 ≤ n) :
    ShAt P w K CS (upd (upd H d (dN P w d (putN es wi t v))) dm (dN P w dm (putN many wi t (.int ((cnt ents wi : Nat) + 1 : Int))))) sh dl dm (setE ents x (putN es wi t v)) (putN many wi t (.int ((cnt ents wi : Nat) + 1 : Int))) n := by
  have D := S.dn _ he
  have nm := S.nm _ he
  have k1 : Kept H (upd H d (dN P w d (putN es wi t v))) := .upd D.at_ (fun h => h)
  have hdm : upd H d (dN P w d (putN es wi t v)) dm = some (dN P w dm many) := by rw [upd_ne (Ne.symm nm)]; exact S.dmN.at_
  have k2 : Kept (upd H d (dN P w d (putN es wi t v))) (upd (upd H d (dN P w d (putN es wi t v))) dm (dN P w dm (putN many wi t (.int ((cnt ents wi : Nat) + 1 : Int))))) := .upd hdm (fun h => h)
  have k := k1.trans k2
  have ky : kys (putN es wi t v) = kys es ++ [wi] := kys_put nw
  have cs := fun u => cnt_set (es := putN es wi t v) u S.nh he
  have cw : cnt (setE ents x (putN es wi t v)) wi = cnt ents wi + 1 := by
    have := cs wi
    rw [if_neg nw, if_pos (by rw [ky]; simp)] at this
    omega
  have co : ∀ u, u ≠ wi → cnt (setE ents x (putN es wi t v)) u = cnt ents u := fun u ne => by
    have := cs u
    have e : u ∈ kys (putN es wi t v) ↔ u ∈ kys es := by rw [ky]; simp [ne]
    by_cases q : u ∈ kys es
    · rw [if_pos q, if_pos (e.mpr q)] at this; omega
    · rw [if_neg q, if_neg (fun h => q (e.mp h))] at this; omega
  have hl : (putN es wi t v).length = es.length + 1 := by
    have h1 : (kys (putN es wi t v)).length = (putN es wi t v).length := List.length_map ..
    have h2 : (kys es).length = es.length := List.length_map ..
    rw [ky, List.length_append, h2] at h1
    exact h1.symm
  refine S.set he k (fun b o hb n1 n2 => by rw [upd_ne n2, upd_ne n1]; exact hb) (by rw [upd_ne nm, upd_same]) upd_same (fun z hz => ?_) (fun z hz => ?_) (putN_nd D.nd _ _ _) (putN_nd S.dmN.nd _ _ _) (fun u hu => ?_) (fun z hz => ?_) (fun u => ?_) S.bd.1 ?_ ?_
  · rcases putN_mem hz with ⟨y, hy, h1, h2⟩ | ⟨h1, h2⟩
    · rw [h1, h2]; exact k.dp (D.ks y hy)
    · rw [h1, h2]; exact k.dp wa
  · rcases putN_mem hz with ⟨y, hy, h1, h2⟩ | ⟨h1, h2⟩
    · rw [h1, h2]; exact k.dp (S.dmN.ks y hy)
    · rw [h1, h2]; exact k.dp wa
  · rw [ky] at hu
    rcases List.mem_append.mp hu with q | q
    · exact S.ok _ he u q
    · rw [List.mem_singleton.mp q]; exact ok
  · rcases putN_mem2 hz with ⟨h1, h2⟩ | ⟨h1, h2⟩
    · rw [h1, h2, cw]; rfl
    · rw [co _ h2]; exact S.cn z h1
  · have kk : u ∈ kys (putN many wi t (.int ((cnt ents wi : Nat) + 1 : Int))) ↔ u ∈ kys many ∨ u = wi := by
      show u ∈ (putN many wi t _).map (·.1) ↔ _
      rw [putN_keys]
      split
      · rename_i q
        exact ⟨.inl, fun h => h.elim id fun e => e ▸ q⟩
      · rw [List.mem_append, List.mem_singleton]; rfl
    rw [kk]
    by_cases e : u = wi
    · rw [e, cw]; simp
    · rw [co u e, S.mk' u]; simp [e]
  · have := putN_len many wi t (.int ((cnt ents wi : Nat) + 1 : Int)); omega
  · have := tot_set (es := putN es wi t v) S.nh he
    omega
/-- a wish leaves a holder -/
theorem ShAt.rem (S : ShAt P w K CS H sh dl dm ents many n) {x : Str} {d : Addr} {es : NE} {wi : Wish} {H' : Hp} {many' : NE} (he : (x, d, es) ∈ ents) (hw : wi ∈ kys es) (hH : ∀ b, H' b = if b = dm then some (dN P w dm many') else if b = d then some (dN P w d (dropN es wi)) else H b)
    (hm : ∀ z, z ∈ many' → (z.1 = wi ∧ z.2.2 = .int ((cnt ents wi : Nat) - 1 : Int)) ∨ (z ∈ many ∧ z.1 ≠ wi)) (ha : ∀ z ∈ many', ∃ y ∈ many, z.1 = y.1 ∧ z.2.1 = y.2.1) (hk : ∀ u, u ∈ kys many' ↔ u ∈ kys many ∧ (u = wi → 1 < cnt ents wi)) (nd : (kys many').Nodup) (hl : many'.length ≤ many.length) :
    ShAt P w K CS H' sh dl dm (setE ents x (dropN es wi)) many' n := by
  have D := S.dn _ he
  have nm := S.nm _ he
  have st : ∀ b o, H b = some o → b ≠ d → b ≠ dm → H' b = some o := fun b o hb n1 n2 => by rw [hH, if_neg n2, if_neg n1]; exact hb
  have k : Kept H H' := fun b o hb hh => st b o hb (fun e => by subst e; rw [D.at_] at hb; cases hb; exact hh) (fun e => by subst e; rw [S.dmN.at_] at hb; cases hb; exact hh)
  have ky : kys (dropN es wi) = (kys es).filter fun u => decide (u ≠ wi) := dropN_keys es wi
  have cs := fun u => cnt_set (es := dropN es wi) u S.nh he
  have nw : wi ∉ kys (dropN es wi) := by rw [ky]; simp
  have cw : cnt (setE ents x (dropN es wi)) wi + 1 = cnt ents wi := by
    have := cs wi
    rw [if_pos hw, if_neg nw] at this
    omega
  have co : ∀ u, u ≠ wi → cnt (setE ents x (dropN es wi)) u = cnt ents u := fun u ne => by
    have := cs u
    have e : u ∈ kys (dropN es wi) ↔ u ∈ kys es := by rw [ky]; simp [ne]
    by_cases q : u ∈ kys es
    · rw [if_pos q, if_pos (e.mpr q)] at this; omega
    · rw [if_neg q, if_neg (fun h => q (e.mp h))] at this; omega
  obtain ⟨b1, b2, b3⟩ := S.bd
  refine S.set he k st (by rw [hH, if_neg nm, if_pos rfl]) (by rw [hH, if_pos rfl]) (fun z hz => k.dp (D.ks z (dropN_mem.mp hz).1)) (fun z hz => ?_) (dropN_nd D.nd _) nd (fun u hu => ?_) (fun z hz => ?_) (fun u => ?_) b1 (by omega) ?_
  · obtain ⟨y, hy, h1, h2⟩ := ha z hz
    rw [h1, h2]; exact k.dp (S.dmN.ks y hy)
  · rw [ky] at hu
    exact S.ok _ he u (List.mem_filter.mp hu).1
  · rcases hm z hz with ⟨h1, h2⟩ | ⟨h1, h2⟩
    · rw [h1, h2]; congr 1; omega
    · rw [co _ h2]; exact S.cn z h1
  · rw [hk u]
    by_cases e : u = wi
    · subst e
      have : u ∈ kys many := (S.mk' u).mpr (by omega)
      simp [this]; omega
    · rw [co u e, S.mk' u]; simp [e]
  · have := tot_set (es := dropN es wi) S.nh he
    have := dropN_len es wi
    omega
end
section
variable {P : Program} {w : World} {K : PySem.W.Frag} {mg : Str → Option Value} {base : Heap} {CS CP f : Addr} {fd : FuncData}
def spPut (P : Program) (w : World) (K : PySem.W.Frag) (CS : Addr) : Sp := fun vs H Q _ => ∃ sh dl dm ents many n x a wi, vs = [.ref sh, .str x, .ref a] ∧ ShAt P w K CS H sh dl dm ents many n ∧ n < 1000 ∧ HolderOk x ∧ LA K H a [wi] ∧ WOk wi ∧ wi ∉ hold ents x ∧
  ∀ v H' ents' many', ShAt P w K CS H' sh dl dm ents' many' (n + 1) → (∀ u, u ∈ hold ents' x ↔ u ∈ hold ents x ∨ u = wi) → (∀ h, h ≠ x → hold ents' h = hold ents h) → Fr [dl] H H' → Q v H'
theorem ok_Shelf_put (T : Txt K mg CS CP) (c_look_holder : Cal P w K mg base "look_holder" 1 ["holder"] (spR rHolder)) (c_look_unlike : Cal P w K mg base "look_unlike" 5 ["wishes"] (spR (rLookU K))) (c_change : Cal P w K mg base "change" 1 ["ahead", "behind"] (spAny (rChange K)))
    (c_Shelf_greatest : MCal P w K mg base CS "greatest" 5 ["self", "beside"] (spGreat P w K CS) [.non]) (F : FnP K "put" "Shelf.put" s_Shelf_put f fd) : FnOk P w K mg base CX0 6 f fd ["self", "holder", "wishes"] (spPut P w K CS) := by
  refine F.ok sc_Shelf_put (fun vs H Q E h => ?_) (fun cdv A outer s H vs Q E hr h => ?_)
  · obtain ⟨sh, dl, dm, ents, many, n, x, a, wi, rfl, _⟩ := h; rfl
  have hu := hu_of hr
  have hu9 := u9 hr
  refine ⟨_, PSs.nox (pss_cons (ps_expr (pe_c c_look_holder hr (by decide) rfl (pa_cons (pv 1) pa_nil)))
      (pss_cons (ps_expr (pe_c c_look_unlike hr (by decide) rfl (pa_cons (pv 2) pa_nil)))
      (pss_cons (ps_set (i := 3) sc_Shelf_put.nd rfl (Or.inl rfl) (pe_dget2 hu (pe_fld (pv 0) rfl) (pv 1) pe_dnewN ⟨rfl, rfl, rfl, rfl⟩))
      (pss_cons (ps_for PassesOwn.never rfl (pi_list (pv 2)) (pg_name (i := 4) sc_Shelf_put.nd rfl (Or.inl rfl)) (pss_one (ps_if (pt_cmp (pc_nin hu9 (pv 4) (pv 3))) pss_never pss_nil)))
      (pss_cons (ps_set (i := 5) sc_Shelf_put.nd rfl (Or.inl rfl) (pe_m0 c_Shelf_greatest (pv 0) T.clShelf hr (by decide)))
      (pss_cons (ps_for PassesOwn.never rfl (pi_list (pv 2)) (pg_name (i := 4) sc_Shelf_put.nd rfl (Or.inl rfl)) (pss_cons (ps_dput hu (pe_fld (pv 0) rfl) (pv 1) (pv 3) rfl)
      (pss_cons (ps_nput hu9 (pv 3) (pv 4) pe_bl rfl)
      (pss_one (ps_nput hu9 (pe_fld (pv 0) rfl) (pv 4) (pe_op op_add (pe_nget2 hu9 (pe_fld (pv 0) rfl) (pv 4) pe_int ⟨rfl, rfl, rfl, rfl⟩) pe_int) rfl)))))
      (pss_one (ps_ret (pe_c c_change hr (by decide) rfl (pa_cons (pv 5) (pa_cons (pe_m0 c_Shelf_greatest (pv 0) T.clShelf hr (by decide)) pa_nil))))))))))), ?_⟩
  obtain ⟨sh, dl, dm, ents, many, n, x, a, wi, rfl, S, hn, hx, la, ok, nw, q⟩ := h
  obtain ⟨dx, hsh⟩ := S.ins
  have ok1 : AllOk [wi] := fun u hu => by rw [List.mem_singleton.mp hu]; exact ok
  refine q_drop (v := .non) (ev_c1 (ea_cons (ev_var rfl) ea_nil) fun H2 e2 => ⟨x, rfl, hx, rfl⟩) fun H1 e1 => ?_
  refine q_drop (v := .non) (ev_c1 (ea_cons (ev_var rfl) ea_nil) fun H3 e3 => ⟨a, [wi], rfl, la.ex (e1.trans e3), ok1, by simp, by show 1 ≤ 30000; omega, rfl⟩) fun H2 e2 => ?_
  have e12 := e1.trans e2
  have hk := e12 _ _ S.dk
  refine ⟨_, rfl, sh, CS, dx, _, .ref dl, rfl, e12 _ _ hsh, T.clShelf, T.a_lists, rfl, dl, rfl, .inl ⟨_, .inl hk⟩, _, rfl, fun d0 h0 => ?_⟩
  obtain ⟨d, es, ed, dn, hes, hc⟩ := dget2_hold (P := P) (w := w) S e12 h0 x
  have n0 : dl ≠ d0 := ne_of_none hk h0
  refine ⟨_, DGet.k (k := .inr x) (by rw [upd_ne n0]; exact hk), ?_⟩
  rw [ed]
  have e3 : Ex H (upd H2 d0 (dN P w d0 [])) := e12.trans (Ex.new h0)
  have h00 : H d0 = none := fresh_back e12 h0
  obtain ⟨xs, sq, was⟩ := la
  obtain ⟨t, rfl, wa⟩ : ∃ t, xs = [.ref t] ∧ WA K H (.ref t) wi := by
    cases was with
    | cons h1 h2 =>
      cases h2
      obtain ⟨t, _, rfl, _, _⟩ := h1.tup_inv
      exact ⟨t, rfl, h1⟩
  have nw' : wi ∉ kys es := by rw [hes]; exact nw
  refine q_forLn (ev_var rfl) (ex_l e3 sq) (fun _ σ' H' => (∃ o, σ' = [some (.ref sh), some (.str x), some (.ref a), some (.ref d), o, none]) ∧ Ex (upd H2 d0 (dN P w d0 [])) H') (fun H4 e4 => ⟨⟨_, rfl⟩, e4⟩) (fun i σ' H' _ p => ex_l (e3.trans p.2) sq) (fun i y σ' H' hi p => ?_) fun σ' H' p => ?_
  · obtain ⟨⟨o, rfl⟩, e4⟩ := p
    obtain rfl : y = .ref t := List.mem_singleton.mp (List.mem_of_getElem? hi)
    exact s_when (b := false) (et_is (et_B (ev_nin (ev_var rfl) (ev_var rfl) (DN.ex dn e4) (wa.ex (e3.trans e4)))) (by rw [valN_some]; exact decide_eq_false nw')) (fun h => by cases h) fun _ H5 e5 => ⟨⟨_, rfl⟩, e4.trans e5⟩
  · obtain ⟨⟨o, rfl⟩, e4⟩ := p
    have e34 := e3.trans e4
    refine ⟨_, rfl, sh, dx, _, rfl, e34 _ _ hsh, rfl, sh, dl, dm, ents, many, n, S.ex e34, by omega, .inl ⟨rfl, fun p gs H4 hp e5 ln okg leg => ?_⟩⟩
    have e35 := e34.trans e5
    have e45 := e4.trans e5
    refine q_forLn (ev_var rfl) (ex_l e35 sq) (fun i σ' H' => (∃ o, σ' = [some (.ref sh), some (.str x), some (.ref a), some (.ref d), o, some (.ref p)]) ∧ ((i = 0 ∧ Ex H4 H') ∨ (i = 1 ∧ LN K H' p gs ∧ SqL K H' a [.ref t] ∧ Fr [dl] H H' ∧ ∃ ents' many', ShAt P w K CS H' sh dl dm ents' many' (n + 1) ∧ (∀ u, u ∈ hold ents' x ↔ u ∈ hold ents x ∨ u = wi) ∧ (∀ h, h ≠ x → hold ents' h = hold ents h))))
      (fun H5 e6 => ⟨⟨_, rfl⟩, .inl ⟨rfl, e6⟩⟩) (fun i σ' H' _ p => ?_) (fun i y σ' H' hi p => ?_) fun σ' H' p => ?_
    · obtain ⟨_, ⟨_, e6⟩ | ⟨_, _, h, _⟩⟩ := p
      · exact ex_l (e35.trans e6) sq
      · exact h
    · obtain ⟨⟨o', rfl⟩, ⟨rfl, e6⟩ | ⟨rfl, _⟩⟩ := p
      · obtain rfl : y = .ref t := List.mem_singleton.mp (List.mem_of_getElem? hi)
        have e36 := e35.trans e6
        have S6 := S.ex e36
        have dn6 := DN.ex dn (e45.trans e6)
        refine ⟨_, rfl, _, rfl, sh, CS, dx, _, .ref dl, rfl, e36 _ _ hsh, T.clShelf, T.a_lists, rfl, _, rfl, dl, _, rfl, DPut.k (k := .inr x) S6.dk (sz_lt (by unfold kvsE; rw [List.length_map]; have := S.bd.1; omega)), ?_⟩
        obtain ⟨ents0, S7, he0, ht0, hh⟩ := S6.enter dn6 (hc.imp id fun ⟨h1, h2, h3⟩ => ⟨fun e hm q => (by have := (S.dn e hm).at_; rw [q, h1, h00] at this; cases this), fun q => (by have := S.dmN.at_; rw [← q, h1, h00] at this; cases this), h2, h3⟩)
        have k7 : Kept H' (upd H' dl (.dK (putK (kvsE ents) (.inr x) (.ref d)))) := .upd S6.dk not_hard_dK
        have f7 : Fr [dl] H' (upd H' dl (.dK (putK (kvsE ents) (.inr x) (.ref d)))) := .upd (List.mem_singleton.mpr rfl)
        generalize upd H' dl (.dK (putK (kvsE ents) (.inr x) (.ref d))) = H7 at S7 k7 f7 ⊢
        have D7 : DN P w K H7 d es := S7.dn _ he0
        have w7 : WA K H7 (.ref t) wi := k7.dp (wa.ex e36)
        have nm7 : d ≠ dm := S7.nm _ he0
        obtain ⟨dx7, hs7⟩ := S7.ins
        refine ⟨_, rfl, _, rfl, t, d, wi, es, rfl, rfl, D7, w7, sz_lt (by have h1 := tot_mem he0; have h1 : es.length ≤ tot ents0 := h1; omega), ?_⟩
        have S9 := S7.add (v := .bl true) he0 nw' ok w7 (by omega) (by have := S.bd.2.1; omega)
        have k8 : Kept H7 (upd H7 d (dN P w d (putN es wi t (.bl true)))) := .upd D7.at_ (fun h => h)
        have D8 : DN P w K (upd H7 d (dN P w d (putN es wi t (.bl true)))) dm many := S7.dmN.kept k8 (by rw [upd_ne (Ne.symm nm7)]; exact S7.dmN.at_)
        have w8 : WA K (upd H7 d (dN P w d (putN es wi t (.bl true)))) (.ref t) wi := k8.dp w7
        have ns : sh ≠ d := fun q => by have := D7.at_; rw [← q, hs7] at this; cases this
        have hs8 : upd H7 d (dN P w d (putN es wi t (.bl true))) sh = some (.ins CS dx7 (shF dl dm)) := by rw [upd_ne ns]; exact hs7
        have f8 : Fr [dl] H7 (upd H7 d (dN P w d (putN es wi t (.bl true)))) := .updE D7.at_
        have vl : (valN many wi).getD (.int 0) = .int (cnt ents0 wi : Nat) := by
          rw [S7.val]
          by_cases q : 0 < cnt ents0 wi
          · rw [if_pos q]; rfl
          · rw [if_neg q]; show V.int 0 = _; congr 1; omega
        refine ⟨_, rfl, sh, CS, dx7, _, .ref dm, rfl, hs8, T.clShelf, T.a_many, rfl, dm, rfl, ⟨many, D8⟩, _, rfl, t, wi, many, rfl, D8, w8, _, 1, vl, rfl, _, rfl, sh, CS, dx7, _, .ref dm, rfl, hs8, T.clShelf, T.a_many, rfl, _, rfl, t, dm, wi, many, rfl, rfl, D8, w8, sz_lt (by have := S.bd.2.1; omega), ?_⟩
        have k9 : Kept (upd H7 d (dN P w d (putN es wi t (.bl true)))) (upd (upd H7 d (dN P w d (putN es wi t (.bl true)))) dm (dN P w dm (putN many wi t (.int ((cnt ents0 wi : Nat) + 1 : Int))))) := .upd D8.at_ (fun h => h)
        have kk := (k7.trans k8).trans k9
        refine ⟨⟨_, rfl⟩, .inr ⟨rfl, ?_, kk.sl (ex_l e36 sq), ((Fr.of e36).trans (f7.trans f8)).trans (.updE D8.at_), _, _, S9, fun u => ?_, fun h hne => ?_⟩⟩
        · obtain ⟨rs, h1, h2⟩ := ln.la
          obtain ⟨rs, h1, h2⟩ := ln
          exact ⟨rs, kk _ _ (e6 _ _ h1) trivial, kk.dps (h2.ex e6)⟩
        · have ky : kys (putN es wi t (.bl true)) = kys es ++ [wi] := kys_put nw'
          rw [hold_set S7.nh he0, if_pos rfl, ky, List.mem_append, List.mem_singleton, hes]
        · rw [hold_set S7.nh he0, if_neg hne, hh]
      · cases hi
    · obtain ⟨⟨o', rfl⟩, ⟨h0, _⟩ | ⟨_, ln', _, fr, ents', many', S', hx', ho'⟩⟩ := p
      · cases h0
      · obtain ⟨dx', hs'⟩ := S'.ins
        refine ⟨_, rfl, _, rfl, sh, dx', _, rfl, hs', rfl, sh, dl, dm, ents', many', n + 1, S', by omega, .inl ⟨rfl, fun p2 gs2 H9 hp2 e9 ln2 okg2 leg2 => ?_⟩⟩
        exact ⟨⟨_, _, gs, gs2, rfl, (ln'.la).ex e9, ln2.la, okg, okg2, by omega, by omega⟩, fun v H10 e10 => q v H10 ents' many' (S'.ex (e9.trans e10)) hx' ho' (fr.trans (.of (e9.trans e10)))⟩
end
end K33
/-! K12: Shelf.take. -/
namespace K33
open PySem PySem.Spec PyProof.Rows L2 Evl
section
variable {P : Program} {w : World} {K : PySem.W.Frag} {mg : Str → Option Value} {base : Heap} {CS CP f : Addr} {fd : FuncData}
def spTake (P : Program) (w : World) (K : PySem.W.Frag) (CS : Addr) : Sp := fun vs H Q _ => ∃ sh dl dm ents many n x a ws, vs = [.ref sh, .str x, .ref a] ∧ ShAt P w K CS H sh dl dm ents many n ∧ n ≤ 1000 ∧ HolderOk x ∧ LA K H a ws ∧ AllOk ws ∧ ws.Nodup ∧ ws.length ≤ 30000 ∧ (∀ u ∈ ws, u ∈ hold ents x) ∧
  ∀ v H' ents' many', ShAt P w K CS H' sh dl dm ents' many' n → (∀ u, u ∈ hold ents' x ↔ u ∈ hold ents x ∧ u ∉ ws) → (∀ h, h ≠ x → hold ents' h = hold ents h) → Fr [dl] H H' → Q v H'
theorem kys_put1 {es : NE} {wi : Wish} {t : Addr} {v : V} (h : wi ∈ kys es) : kys (putN es wi t v) = kys es := by
  have h1 := putN_keys es wi t v
  rw [if_pos (show wi ∈ es.map (·.1) from h)] at h1
  exact h1
theorem kys_len (es : NE) : (kys es).length = es.length := List.length_map ..
theorem kys_drop (es : NE) (wi u : Wish) : u ∈ kys (dropN es wi) ↔ u ∈ kys es ∧ u ≠ wi := by
  have h : kys (dropN es wi) = (kys es).filter fun u => decide (u ≠ wi) := dropN_keys es wi
  rw [h, List.mem_filter]
  simp
theorem ok_Shelf_take (T : Txt K mg CS CP) (c_look_holder : Cal P w K mg base "look_holder" 1 ["holder"] (spR rHolder)) (c_look_unlike : Cal P w K mg base "look_unlike" 5 ["wishes"] (spR (rLookU K))) (c_change : Cal P w K mg base "change" 1 ["ahead", "behind"] (spAny (rChange K)))
    (c_Shelf_greatest : MCal P w K mg base CS "greatest" 5 ["self", "beside"] (spGreat P w K CS) [.non]) (F : FnP K "take" "Shelf.take" s_Shelf_take f fd) : FnOk P w K mg base CX0 6 f fd ["self", "holder", "wishes"] (spTake P w K CS) := by
  refine F.ok sc_Shelf_take (fun vs H Q E h => ?_) (fun cdv A outer s H vs Q E hr h => ?_)
  · obtain ⟨sh, dl, dm, ents, many, n, x, a, ws, rfl, _⟩ := h; rfl
  have hu := hu_of hr
  have hu9 := u9 hr
  refine ⟨_, PSs.nox (pss_cons (ps_expr (pe_c c_look_holder hr (by decide) rfl (pa_cons (pv 1) pa_nil)))
      (pss_cons (ps_expr (pe_c c_look_unlike hr (by decide) rfl (pa_cons (pv 2) pa_nil)))
      (pss_cons (ps_set (i := 3) sc_Shelf_take.nd rfl (Or.inl rfl) (pe_dget2 hu (pe_fld (pv 0) rfl) (pv 1) pe_dnewN ⟨rfl, rfl, rfl, rfl⟩))
      (pss_cons (ps_for PassesOwn.never rfl (pi_list (pv 2)) (pg_name (i := 4) sc_Shelf_take.nd rfl (Or.inl rfl)) (pss_one (ps_if (pt_cmp (pc_nnotin hu9 (pv 4) (pv 3))) pss_never pss_nil)))
      (pss_cons (ps_set (i := 5) sc_Shelf_take.nd rfl (Or.inl rfl) (pe_m0 c_Shelf_greatest (pv 0) T.clShelf hr (by decide)))
      (pss_cons (ps_for PassesOwn.never rfl (pi_list (pv 2)) (pg_name (i := 4) sc_Shelf_take.nd rfl (Or.inl rfl)) (pss_cons (ps_expr (pe_npop hu9 (pv 3) (pv 4) ⟨rfl, rfl, rfl, rfl⟩))
      (pss_cons (ps_nput hu9 (pe_fld (pv 0) rfl) (pv 4) (pe_op op_sub (pe_nget hu9 (pe_fld (pv 0) rfl) (pv 4) (fun _ _ => rfl)) pe_int) rfl)
      (pss_one (ps_if (pt_cmpR op_eq (pe_nget hu9 (pe_fld (pv 0) rfl) (pv 4) (fun _ _ => rfl)) pe_int (nomark _)) (pss_one (ps_expr (pe_npop hu9 (pe_fld (pv 0) rfl) (pv 4) ⟨rfl, rfl, rfl, rfl⟩))) pss_nil)))))
      (pss_cons (ps_if (PW.pt (pw_and (pt_cmpR (r := rNeD K) (op_neD hr.units) (pv 2) (pe_lst pa_nil) (nomark _)) (pw_and1 (pt_cmpR op_eq (pe_callB call_lenN (by rfl) T.n_len bt_len (pa_cons (pv 3) pa_nil)) pe_int (nomark _))))) (pss_one (ps_expr (pe_dpop1 (pe_fld (pv 0) rfl) (pv 1) ⟨rfl, rfl, rfl, rfl⟩))) pss_nil)
      (pss_one (ps_ret (pe_c c_change hr (by decide) rfl (pa_cons (pv 5) (pa_cons (pe_m0 c_Shelf_greatest (pv 0) T.clShelf hr (by decide)) pa_nil)))))))))))), ?_⟩
  obtain ⟨sh, dl, dm, ents, many, n, x, a, ws, rfl, S, hn, hx, la, ok, nd, hz, sub, q⟩ := h
  obtain ⟨dx, hsh⟩ := S.ins
  refine q_drop (v := .non) (ev_c1 (ea_cons (ev_var rfl) ea_nil) fun H2 e2 => ⟨x, rfl, hx, rfl⟩) fun H1 e1 => ?_
  refine q_drop (v := .non) (ev_c1 (ea_cons (ev_var rfl) ea_nil) fun H3 e3 => ⟨a, ws, rfl, la.ex (e1.trans e3), ok, nd, hz, rfl⟩) fun H2 e2 => ?_
  have e12 := e1.trans e2
  have hk := e12 _ _ S.dk
  refine ⟨_, rfl, sh, CS, dx, _, .ref dl, rfl, e12 _ _ hsh, T.clShelf, T.a_lists, rfl, dl, rfl, .inl ⟨_, .inl hk⟩, _, rfl, fun d0 h0 => ?_⟩
  obtain ⟨d, es, ed, dn, hes, hc⟩ := dget2_hold (P := P) (w := w) S e12 h0 x
  have n0 : dl ≠ d0 := ne_of_none hk h0
  refine ⟨_, DGet.k (k := .inr x) (by rw [upd_ne n0]; exact hk), ?_⟩
  rw [ed]
  have e3 : Ex H (upd H2 d0 (dN P w d0 [])) := e12.trans (Ex.new h0)
  have la' := la
  obtain ⟨xs, sq, was⟩ := la
  have lx := was.length
  refine q_forLn (ev_var rfl) (ex_l e3 sq) (fun _ σ' H' => (∃ o, σ' = [some (.ref sh), some (.str x), some (.ref a), some (.ref d), o, none]) ∧ Ex (upd H2 d0 (dN P w d0 [])) H') (fun H4 e4 => ⟨⟨_, rfl⟩, e4⟩) (fun i σ' H' _ p => ex_l (e3.trans p.2) sq) (fun i y σ' H' hi p => ?_) fun σ' H' p => ?_
  · obtain ⟨⟨o, rfl⟩, e4⟩ := p
    obtain ⟨wi, hw, wa⟩ := was.get hi
    obtain ⟨t, _, rfl, _, _⟩ := wa.ref
    have hm : wi ∈ es.map (·.1) := by
      have := sub wi (List.mem_of_getElem? hw)
      rw [← hes] at this; exact this
    exact s_when (b := false) (et_is (et_B (ev_nnin (ev_var rfl) (ev_var rfl) (DN.ex dn e4) (wa.ex (e3.trans e4)))) (by rw [valN_some, decide_eq_true hm]; rfl)) (fun h => by cases h) fun _ H5 e5 => ⟨⟨_, rfl⟩, e4.trans e5⟩
  · obtain ⟨⟨o, rfl⟩, e4⟩ := p
    have e34 := e3.trans e4
    refine ⟨_, rfl, sh, dx, _, rfl, e34 _ _ hsh, rfl, sh, dl, dm, ents, many, n, S.ex e34, by omega, .inl ⟨rfl, fun p gs H4 hp e5 ln okg leg => ?_⟩⟩
    have e35 := e34.trans e5
    have e45 := e4.trans e5
    refine q_forLn (ev_var rfl) (ex_l e35 sq) (fun i σ' H' => (∃ o, σ' = [some (.ref sh), some (.str x), some (.ref a), some (.ref d), o, some (.ref p)]) ∧ Kept H4 H' ∧ Fr [] H H' ∧ ∃ ents' many' es', ShAt P w K CS H' sh dl dm ents' many' n ∧ (∀ u, u ∈ hold ents' x ↔ u ∈ hold ents x ∧ u ∉ ws.take i) ∧ (∀ h, h ≠ x → hold ents' h = hold ents h) ∧ DN P w K H' d es' ∧ kys es' = hold ents' x ∧ ((x, d, es') ∈ ents' ∨ (es' = [] ∧ ws = [])))
      (fun H5 e6 => ⟨⟨_, rfl⟩, .of e6, .of (e35.trans e6), ents, many, es, S.ex (e35.trans e6), fun u => by simp, fun _ _ => rfl, DN.ex dn (e45.trans e6), hes, hc.imp id fun h => ⟨h.2.1, List.eq_nil_iff_forall_not_mem.mpr fun u hu => by have := sub u hu; rw [← hes, h.2.1] at this; cases this⟩⟩) (fun i σ' H' _ p => p.2.1.sl (ex_l e35 sq)) (fun i y σ' H' hi p => ?_) fun σ' H' p => ?_
    · obtain ⟨⟨o', rfl⟩, kp, fr, ents', many', es', S', hx', ho', D', hes', hc'⟩ := p
      obtain ⟨wi, hw, wa0⟩ := was.get hi
      obtain ⟨t, _, rfl, _, _⟩ := wa0.ref
      have wa : WA K H' (.ref t) wi := kp.dp (wa0.ex e35)
      have hm : wi ∈ kys es' := by
        rw [hes', hx']
        refine ⟨sub wi (List.mem_of_getElem? hw), fun m => ?_⟩
        have nd2 : (ws.take i ++ ws.drop i).Nodup := by rw [List.take_append_drop]; exact nd
        exact (List.nodup_append.mp nd2).2.2 _ m wi (by rw [drop_of hw]; exact List.mem_cons_self ..) rfl
      have he : (x, d, es') ∈ ents' := hc'.elim id fun h => by rw [h.1] at hm; cases hm
      obtain ⟨vv, hvv⟩ := valN_ex hm
      refine ⟨_, rfl, d, rfl, ⟨es', D'⟩, _, rfl, t, wi, es', vv, rfl, D', wa, hvv, ?_⟩
      have nm : d ≠ dm := S'.nm _ he
      obtain ⟨dx', hs'⟩ := S'.ins
      have k1 : Kept H' (upd H' d (dN P w d (dropN es' wi))) := .upd D'.at_ (fun h => h)
      have ns : sh ≠ d := fun q => by have := D'.at_; rw [← q, hs'] at this; cases this
      have hs1 : upd H' d (dN P w d (dropN es' wi)) sh = some (.ins CS dx' (shF dl dm)) := by rw [upd_ne ns]; exact hs'
      have D1 : DN P w K (upd H' d (dN P w d (dropN es' wi))) dm many' := S'.dmN.kept k1 (by rw [upd_ne (Ne.symm nm)]; exact S'.dmN.at_)
      have w1 : WA K (upd H' d (dN P w d (dropN es' wi))) (.ref t) wi := k1.dp wa
      have cp : 0 < cnt ents' wi := cnt_pos.mpr ⟨_, he, hm⟩
      have vl : valN many' wi = some (.int (cnt ents' wi : Nat)) := by rw [S'.val, if_pos cp]
      refine ⟨_, rfl, sh, CS, dx', _, .ref dm, rfl, hs1, T.clShelf, T.a_many, rfl, _, rfl, t, dm, wi, many', _, rfl, rfl, D1, w1, vl, _, 1, rfl, rfl, _, rfl, sh, CS, dx', _, .ref dm, rfl, hs1, T.clShelf, T.a_many, rfl, _, rfl, t, dm, wi, many', rfl, rfl, D1, w1, sz_lt (by have := S'.bd.2.1; omega), ?_⟩
      have k2 : Kept (upd H' d (dN P w d (dropN es' wi))) (upd (upd H' d (dN P w d (dropN es' wi))) dm (dN P w dm (putN many' wi t (.int ((cnt ents' wi : Nat) - 1 : Int))))) := .upd D1.at_ (fun h => h)
      have nsm : sh ≠ dm := fun q => by have := S'.dmN.at_; rw [← q, hs'] at this; cases this
      have hs2 : upd (upd H' d (dN P w d (dropN es' wi))) dm (dN P w dm (putN many' wi t (.int ((cnt ents' wi : Nat) - 1 : Int)))) sh = some (.ins CS dx' (shF dl dm)) := by rw [upd_ne nsm]; exact hs1
      have kys1 : kys (putN many' wi t (.int ((cnt ents' wi : Nat) - 1 : Int))) = kys many' := kys_put1 ((S'.mk' wi).mpr cp)
      have kys2 : ∀ u, u ∈ kys (putN many' wi t (.int ((cnt ents' wi : Nat) - 1 : Int))) ↔ u ∈ kys many' := fun u => by rw [kys1]
      have len2 : (putN many' wi t (.int ((cnt ents' wi : Nat) - 1 : Int))).length = many'.length := by
        rw [← kys_len, kys1, kys_len]
      have adr : ∀ z ∈ putN many' wi t (.int ((cnt ents' wi : Nat) - 1 : Int)), ∃ y ∈ many', z.1 = y.1 ∧ z.2.1 = y.2.1 := fun z hz => by
        have hin : (many'.any fun x => decide (x.1 = wi)) = true := by rw [valN_any, vl]; rfl
        unfold putN at hz
        rw [if_pos hin] at hz
        obtain ⟨y, hy, e⟩ := List.mem_map.mp hz
        refine ⟨y, hy, ?_⟩
        by_cases ey : y.1 = wi
        · rw [if_pos ey] at e; subst e; exact ⟨rfl, rfl⟩
        · rw [if_neg ey] at e; subst e; exact ⟨rfl, rfl⟩
      have D2 : DN P w K (upd (upd H' d (dN P w d (dropN es' wi))) dm (dN P w dm (putN many' wi t (.int ((cnt ents' wi : Nat) - 1 : Int))))) dm (putN many' wi t (.int ((cnt ents' wi : Nat) - 1 : Int))) := ⟨upd_same, fun z hz => by
        obtain ⟨y, hy, h1, h2⟩ := adr z hz
        rw [h1, h2]; exact k2.dp (D1.ks y hy), putN_nd D1.nd _ _ _⟩
      have w2 := k2.dp w1
      have vl2 := valN_put many' wi t (.int ((cnt ents' wi : Nat) - 1 : Int))
      have f2 : Fr [] H' (upd (upd H' d (dN P w d (dropN es' wi))) dm (dN P w dm (putN many' wi t (.int ((cnt ents' wi : Nat) - 1 : Int))))) := (Fr.updE D'.at_).trans (.updE D1.at_)
      have hold1 : ∀ {many'' : NE} {H'' : Hp}, ShAt P w K CS H'' sh dl dm (setE ents' x (dropN es' wi)) many'' n → Kept H' H'' → Fr [] H' H'' → H'' d = some (dN P w d (dropN es' wi)) → (Kept H4 H'' ∧ Fr [] H H'' ∧ ∃ ents' many' es', ShAt P w K CS H'' sh dl dm ents' many' n ∧ (∀ u, u ∈ hold ents' x ↔ u ∈ hold ents x ∧ u ∉ ws.take (i + 1)) ∧ (∀ h, h ≠ x → hold ents' h = hold ents h) ∧ DN P w K H'' d es' ∧ kys es' = hold ents' x ∧ ((x, d, es') ∈ ents' ∨ (es' = [] ∧ ws = []))) := by
        intro many'' H'' S2 k f hd
        refine ⟨kp.trans k, fr.trans f, _, _, dropN es' wi, S2, fun u => ?_, fun h hne => ?_, S2.dn _ (setE_has he), ?_, .inl (setE_has he)⟩
        · rw [hold_set S'.nh he, if_pos rfl, kys_drop, hes', hx', take_of hw, List.mem_append, List.mem_singleton]
          constructor
          · rintro ⟨⟨h1, h2⟩, h3⟩; exact ⟨h1, fun h => h.elim h2 h3⟩
          · rintro ⟨h1, h2⟩; exact ⟨⟨h1, fun h => h2 (.inl h)⟩, fun h => h2 (.inr h)⟩
        · rw [hold_set S'.nh he, if_neg hne, ho' h hne]
        · rw [hold_set S'.nh he, if_pos rfl]
      have vg : Val (tNGet P w K (tFld K (tVar 0) "many") (tVar 4)) [some (.ref sh), some (.str x), some (.ref a), some (.ref d), some (.ref t), some (.ref p)] (upd (upd H' d (dN P w d (dropN es' wi))) dm (dN P w dm (putN many' wi t (.int ((cnt ents' wi : Nat) - 1 : Int))))) (.int ((cnt ents' wi : Nat) - 1 : Int)) := fun Q' q' =>
        ⟨_, rfl, sh, CS, dx', _, .ref dm, rfl, hs2, T.clShelf, T.a_many, rfl, _, rfl, t, dm, wi, _, _, rfl, rfl, D2, w2, vl2, q'⟩
      by_cases one : cnt ents' wi = 1
      · refine st_yes (ans_eq vg val_c rfl (by rw [one]; decide)) ?_
        refine ⟨_, rfl, sh, CS, dx', _, .ref dm, rfl, hs2, T.clShelf, T.a_many, rfl, dm, rfl, ⟨_, D2⟩, _, rfl, t, wi, _, _, rfl, D2, w2, vl2, ⟨⟨_, rfl⟩, ?_⟩⟩
        have S3 := S'.rem (H' := upd (upd (upd H' d (dN P w d (dropN es' wi))) dm (dN P w dm (putN many' wi t (.int ((cnt ents' wi : Nat) - 1 : Int))))) dm (dN P w dm (dropN (putN many' wi t (.int ((cnt ents' wi : Nat) - 1 : Int))) wi))) (many' := dropN (putN many' wi t (.int ((cnt ents' wi : Nat) - 1 : Int))) wi) he hm (fun b => by
          rw [upd_upd]
          by_cases e1 : b = dm
          · subst e1; rw [if_pos rfl, upd_same]
          · rw [if_neg e1, upd_ne e1]
            by_cases e2 : b = d
            · subst e2; rw [if_pos rfl, upd_same]
            · rw [if_neg e2, upd_ne e2]) (fun z hz => .inr (by
              obtain ⟨h1, h2⟩ := dropN_mem.mp hz
              rcases putN_mem2 h1 with h | h
              · exact absurd h.1 h2
              · exact h)) (fun z hz => adr z (dropN_mem.mp hz).1) (fun u => by
              rw [kys_drop, kys2]
              constructor
              · rintro ⟨h1, h2⟩; exact ⟨h1, fun h => absurd h h2⟩
              · rintro ⟨h1, h2⟩; exact ⟨h1, fun h => by have := h2 h; omega⟩) (dropN_nd D2.nd _) (by have := dropN_len (putN many' wi t (.int ((cnt ents' wi : Nat) - 1 : Int))) wi; omega)
        exact hold1 S3 ((k1.trans k2).trans (.upd D2.at_ (fun h => h))) (f2.trans (.updE D2.at_)) (by rw [upd_ne nm, upd_ne nm, upd_same])
      · refine st_no (ans_eq vg val_c rfl (decide_eq_false fun h => one (by injection h with h; omega))) ?_
        refine ⟨⟨_, rfl⟩, ?_⟩
        have S3 := S'.rem (H' := upd (upd H' d (dN P w d (dropN es' wi))) dm (dN P w dm (putN many' wi t (.int ((cnt ents' wi : Nat) - 1 : Int))))) (many' := putN many' wi t (.int ((cnt ents' wi : Nat) - 1 : Int))) he hm (fun b => by
          by_cases e1 : b = dm
          · subst e1; rw [if_pos rfl, upd_same]
          · rw [if_neg e1, upd_ne e1]
            by_cases e2 : b = d
            · subst e2; rw [if_pos rfl, upd_same]
            · rw [if_neg e2, upd_ne e2]) (fun z hz => putN_mem2 hz) adr (fun u => by
              rw [kys2]
              exact ⟨fun h => ⟨h, fun _ => by omega⟩, fun h => h.1⟩) D2.nd (by omega)
        exact hold1 S3 (k1.trans k2) f2 (by rw [upd_ne nm, upd_same])
    · obtain ⟨⟨o', rfl⟩, kp, fr, ents', many', es', S', hx', ho', D', hes', hc'⟩ := p
      rw [lx, List.take_length] at hx'
      obtain ⟨dx', hs'⟩ := S'.ins
      have laF : ∀ {H5}, Kept H' H5 → LA K H5 a ws := fun k => Kept.la (kp.trans k) (la'.ex e35)
      have done : ∀ {H5 : Hp} {ents2 : Ents} (o : Option V), ShAt P w K CS H5 sh dl dm ents2 many' n → (∀ u, u ∈ hold ents2 x ↔ u ∈ hold ents x ∧ u ∉ ws) → (∀ h, h ≠ x → hold ents2 h = hold ents h) → Kept H' H5 → Fr [dl] H' H5 →
          tRet (tCall (spAny (rChange K)) [] E0 (tCons (tVar 5) (tCons (tMeth CS "greatest" (spGreat P w K CS) [.non] E0 (tVar 0) tNil) tNil))) { nx := fun _ H' => Q .non H', rt := Q } [some (.ref sh), some (.str x), some (.ref a), some (.ref d), o, some (.ref p)] H5 := by
        intro H5 ents2 o S5 h1 h2 k5 f5
        obtain ⟨dx5, hs5⟩ := S5.ins
        have ln5 : LA K H5 p gs := Kept.la (kp.trans k5) ln.la
        refine ⟨_, rfl, _, rfl, sh, dx5, _, rfl, hs5, rfl, sh, dl, dm, ents2, many', n, S5, by omega, .inl ⟨rfl, fun p2 gs2 H9 hp2 e9 ln2 okg2 leg2 => ?_⟩⟩
        exact ⟨⟨_, _, gs, gs2, rfl, ln5.ex e9, ln2.la, okg, okg2, by omega, by omega⟩, fun v H10 e10 => q v H10 ents2 many' (S5.ex (e9.trans e10)) h1 h2 ((fr.mono (fun b hb => by cases hb)).trans (f5.trans (.of (e9.trans e10))))⟩
      have lz : es'.length ≤ 100000 := by
        have h1 : (kys es').length = es'.length := List.length_map ..
        rw [hes'] at h1
        have := hold_len (ents := ents') x
        have := S'.bd.2.2
        omega
      refine q_when (b := decide (ws ≠ []) && decide (es'.length = 0)) (et_and (et_test ?_) fun _ => et_test ?_) (fun hb H5 e5 => ?_) (fun hb H5 e5 => ?_)
      · refine ev_opL (xs := []) (ev_var rfl) (el_lst ea_nil (Nat.zero_le _)) fun r H5 h5 e5 => rv_neD (d := lD ws) (e := lD []) (fun H6 e6 => ((laF (.of e5)).dp).ex e6) (fun H6 e6 => .lst (sq_of (e6 _ _ h5)) .nil) (lD_shaped ok) (lD_shaped (fun u hu => by cases hu)) (by rw [lD_eqv]; simp)
      · refine ev_is (ev_op (x := .int ((es'.length : Nat) : Int)) (fun H5 e5 Q' q' => ⟨_, rfl, d, es', rfl, DN.ex D' e5, q' H5 (Ex.refl _)⟩) ev_c (rv_eq rfl)) ?_
        by_cases z : es'.length = 0
        · rw [z]; rfl
        · rw [decide_eq_false z, decide_eq_false (fun h => z (by cases h' : es'.length with | zero => rfl | succ n => rw [h'] at h; injection h with h; omega))]
      · simp only [Bool.and_eq_true, decide_eq_true_eq] at hb
        have e0 : es' = [] := List.length_eq_zero_iff.mp hb.2
        have he : (x, d, []) ∈ ents' := by
          rcases hc' with h | h
          · rw [e0] at h; exact h
          · exact absurd h.2 hb.1
        have S5 := S'.ex e5
        refine ⟨_, rfl, sh, CS, dx', _, .ref dl, rfl, e5 _ _ hs', T.clShelf, T.a_lists, rfl, dl, rfl, .inl ⟨_, .inl S5.dk⟩, _, rfl, kvsE ents', .inr x, _, S5.dk, rfl, val_kvsE S5.nh he, ?_⟩
        have h0 : hold ents' x = [] := by rw [← hes', e0]; rfl
        refine done _ (S5.less he) (fun u => by rw [hold_less S5.nh h0]; exact hx' u) (fun h hne => by rw [hold_less S5.nh h0]; exact ho' h hne) ((Kept.of e5).trans (.upd S5.dk not_hard_dK)) ((Fr.of e5).trans (.upd (List.mem_singleton.mpr rfl)))
      · exact done _ (S'.ex e5) hx' ho' (.of e5) (.of e5)
end
end K33
/-! K13: the post in the heap; its small methods. -/
namespace K33
open PySem PySem.Spec PyProof.Rows L2 Evl TL
/-! ### numbers as holders -/
def nS (m : Int) : Str := Str.ofString (toString m)
theorem nS_tl {m : Int} (h : 0 ≤ m) : (nS m).cps.toList = numL m.toNat := by
  have e : m = ((m.toNat : Nat) : Int) := by omega
  have := tl_num m.toNat
  rw [← e] at this
  exact this
theorem signs_eq : signsS.cps.toList = (List.range 26).map (· + 97) ++ (List.range 10).map (· + 48) := by decide +kernel
theorem sign_digit {c : Nat} (h1 : 48 ≤ c) (h2 : c ≤ 57) : c ∈ signsS.cps.toList := by
  rw [signs_eq]
  exact List.mem_append_right _ (List.mem_map.mpr ⟨c - 48, List.mem_range.mpr (by omega), by omega⟩)
theorem sign_small {c : Nat} (h : small c) : c ∈ signsS.cps.toList := by
  rw [signs_eq]
  exact List.mem_append_left _ (List.mem_map.mpr ⟨c - 97, List.mem_range.mpr (by have := h.1; have := h.2; omega), by have := h.1; omega⟩)
theorem NameOk.holder {x : Str} (h : NameOk x) : HolderOk x := ⟨h.1, by have := h.2.1; omega, fun c hc => sign_small (h.2.2 c hc)⟩
theorem nS_holder {m : Int} (h : 0 ≤ m) (h2 : m < 1000000) : HolderOk (nS m) := by
  unfold HolderOk
  rw [nS_tl h]
  refine ⟨?_, ?_, fun c hc => ?_⟩
  · have := numL_ne m.toNat
    cases e : numL m.toNat with
    | nil => exact absurd e this
    | cons a r => simp
  · have := numL_len (n := m.toNat) (k := 15) (by decide) (by omega)
    exact this
  · have r := numL_digits m.toNat c hc
    exact sign_digit r.1 r.2
theorem nS_inj {m n : Int} (h : 0 ≤ m) (h' : 0 ≤ n) (e : nS m = nS n) : m = n := by
  have := congrArg (fun x : Str => x.cps.toList) e
  rw [nS_tl h, nS_tl h'] at this
  have := numL_inj this
  omega
theorem nS_name {m : Int} (h : 0 ≤ m) {x : Str} (hx : NameOk x) : x ≠ nS m := fun e => by
  have e2 : x.cps.toList = numL m.toNat := by rw [e, nS_tl h]
  cases q : x.cps.toList with
  | nil => have := hx.1; rw [q] at this; cases this
  | cons c r =>
    have h1 := hx.2.2 c (by rw [q]; exact List.mem_cons_self ..)
    have h2 := numL_digits m.toNat c (by rw [← e2, q]; exact List.mem_cons_self ..)
    have := h1.1
    have := h2.2
    omega
/-! ### the post -/
structure PAd where
  p : Addr
  sh : Addr
  dl : Addr
  dm : Addr
  nl : Addr
  mk' : Addr
  sd : Addr
def poF (own : Int) (A : PAd) : List (Str × V) := [("own", .int own), ("near", .ref A.nl), ("shelf", .ref A.sh), ("marked", .ref A.mk'), ("tellings", .int 0), ("spoken", .ref A.sd)]
structure PoAt (P : Program) (w : World) (K : PySem.W.Frag) (CS CP : Addr) (H : Hp) (A : PAd) (near : List Int) (kvm : List (Key × V)) (ents : Ents) (sp : Int → List Wish) (n : Nat) : Prop where
  ins : ∃ dx own, H A.p = some (.ins CP dx (poF own A))
  nr : H A.nl = some (.lst (near.map V.int))
  sha : ∃ many, ShAt P w K CS H A.sh A.dl A.dm ents many n
  mk' : H A.mk' = some (.dK kvm)
  sdk : ∃ ksp, H A.sd = some (.dK ksp) ∧ ksp.length ≤ 1000 ∧ ∀ m ∈ near, ∃ a, valV ksp (.inl m) = some (.ref a) ∧ LA K H a (sp m)
  spk : ∀ m ∈ near, AllOk (sp m) ∧ (sp m).Nodup ∧ (sp m).length ≤ 1000
  ne : A.mk' ≠ A.dl ∧ A.sd ≠ A.dl ∧ A.mk' ≠ A.sd
  nb : near.Nodup ∧ (∀ m ∈ near, 0 ≤ m ∧ m < 1000000) ∧ near.length ≤ 100
  kb : kvm.length ≤ 1000
/-- each neighbour was told the greatest wishes of the others -/
def Stl (near : List Int) (ents : Ents) (sp : Int → List Wish) : Prop := ∀ m ∈ near, IsGr (sp m) (oth ents (nS m))
def Sps (A : PAd) : List Addr := [A.dl, A.mk', A.sd]
/-! ### letters -/
def kindS (un : Bool) : Str := if un then unwantS else wantS
abbrev Let := Int × Bool × Wish
def leD (l : Let) : PyData := .tuple [.int l.1, .tuple [.str (kindS l.2.1), wD l.2.2]]
def LtA (K : PySem.W.Frag) (H : Hp) (v : V) (ls : List Let) : Prop := ∃ l xs, v = .ref l ∧ H l = some (.lst xs) ∧ DpAll K H xs (ls.map leD)
/-- a pair: letters, and nothing given -/
def PrA (K : PySem.W.Frag) (H : Hp) (v : V) (ls : List Let) : Prop := ∃ t x g, v = .ref t ∧ H t = some (.tup [x, .ref g]) ∧ LtA K H x ls ∧ H g = some (.lst [])
theorem LtA.ex {K : PySem.W.Frag} {H H' : Hp} {v : V} {ls : List Let} (h : LtA K H v ls) (e : Ex H H') : LtA K H' v ls := let ⟨l, xs, h1, h2, h3⟩ := h; ⟨l, xs, h1, e _ _ h2, h3.ex e⟩
theorem LtA.kept {K : PySem.W.Frag} {H H' : Hp} {v : V} {ls : List Let} (h : LtA K H v ls) (e : Kept H H') : LtA K H' v ls := let ⟨l, xs, h1, h2, h3⟩ := h; ⟨l, xs, h1, e _ _ h2 trivial, e.dps h3⟩
section
variable {P : Program} {w : World} {K : PySem.W.Frag} {CS CP : Addr} {H H' : Hp} {A : PAd} {near : List Int} {kvm : List (Key × V)} {ents : Ents} {sp : Int → List Wish} {n : Nat}
theorem PoAt.ex (S : PoAt P w K CS CP H A near kvm ents sp n) (e : Ex H H') : PoAt P w K CS CP H' A near kvm ents sp n :=
  ⟨let ⟨dx, o, h⟩ := S.ins; ⟨dx, o, e _ _ h⟩, e _ _ S.nr, let ⟨m, h⟩ := S.sha; ⟨m, h.ex e⟩, e _ _ S.mk', let ⟨k, h1, h2, h3⟩ := S.sdk; ⟨k, e _ _ h1, h2, fun m hm => let ⟨a, h4, h5⟩ := h3 m hm; ⟨a, h4, h5.ex e⟩⟩, S.spk, S.ne, S.nb, S.kb⟩
theorem lg_small {m : Int} (b : 0 ≤ m ∧ m < 1000000) : m.natAbs.log2 < 1920 := by
  have h := Nat.log2_le_self m.natAbs
  by_cases q : m.natAbs < 1920
  · omega
  · have h2 : m.natAbs.log2 < 20 := (Nat.log2_lt (by omega)).mpr (by have : (2 : Nat) ^ 20 = 1048576 := rfl; omega)
    omega
theorem mem_near {near : List Int} {m : Int} : inV (.int m) (near.map V.int) = decide (m ∈ near) := by
  unfold inV
  induction near with
  | nil => rfl
  | cons a r ih =>
    rw [List.map_cons, List.any_cons, ih]
    by_cases e : a = m
    · subst e; simp [eqV]
    · have e' : ¬ m = a := fun h => e h.symm
      simp [eqV, e, e']
theorem near_flat {near : List Int} : (near.map V.int).all flatV = true := List.all_eq_true.mpr fun x hx => by
  obtain ⟨i, _, rfl⟩ := List.mem_map.mp hx
  rfl
end
section
variable {P : Program} {w : World} {K : PySem.W.Frag} {mg : Str → Option Value} {base : Heap} {CS CP f : Addr} {fd : FuncData}
def rNeedHand (K : PySem.W.Frag) (CP : Addr) : List V → Hp → V → Prop := fun vs H r => ∃ p x A own dx kvm v, vs = [.ref p, .str x] ∧ NameOk x ∧ H p = some (.ins CP dx (poF own A)) ∧ H A.mk' = some (.dK kvm) ∧ valV kvm (.inr x) = some v ∧ r = .non
theorem ok_Post_need_hand (T : Txt K mg CS CP) (c_is_name : Cal P w K mg base "is_name" 1 ["thing"] (spR rName)) (F : FnP K "need_hand" "Post.need_hand" s_Post_need_hand f fd) : FnOk P w K mg base CX0 2 f fd ["self", "hand"] (spR (rNeedHand K CP)) := by
  refine F.ok sc_Post_need_hand (fun vs H Q E h => ?_) (fun cdv A outer s H vs Q E hr h => ?_)
  · obtain ⟨r, ⟨p, x, A, own, dx, kvm, v, rfl, _⟩, _⟩ := h; rfl
  have hu := hu_of hr
  refine ⟨_, PSs.nox (pss_one (ps_if (PW.pt (pw_or (pt_not (pt_val (pe_c c_is_name hr (by decide) rfl (pa_cons (pv 1) pa_nil)))) (pw_or1 (pt_cmp (pc_dnotin hu (pv 1) (pe_fld (pv 0) rfl)))))) pss_never pss_nil)), ?_⟩
  obtain ⟨r, ⟨p, x, A, own, dx, kvm, v, rfl, hx, hp, hk, hv, rfl⟩, q⟩ := h
  refine s_when (b := false) (et_is (et_or (et_not (et_B (ev_c1 (z := .bl true) (ea_cons (ev_var rfl) ea_nil) fun H1 e1 => ⟨x, rfl, hx, rfl⟩))) fun _ => et_B (ev_dnin (ev_var rfl) (ev_fld (ev_var rfl) hp T.clPost T.a_marked rfl) (DGet.k (k := .inr x) hk))) (by rw [hv]; rfl)) (fun h => by cases h) fun _ H1 e1 => q H1 e1
theorem ok_Post_need_staying (T : Txt K mg CS CP) (c_Post_need_hand : MCal P w K mg base CP "need_hand" 2 ["self", "hand"] (spR (rNeedHand K CP)) []) (F : FnP K "need_staying" "Post.need_staying" s_Post_need_staying f fd) : FnOk P w K mg base CX0 3 f fd ["self", "hand"] (spR (rNeedHand K CP)) := by
  refine F.ok sc_Post_need_staying (fun vs H Q E h => ?_) (fun cdv A outer s H vs Q E hr h => ?_)
  · obtain ⟨r, ⟨p, x, A, own, dx, kvm, v, rfl, _⟩, _⟩ := h; rfl
  refine ⟨_, PSs.nox (pss_one (ps_expr (pe_m c_Post_need_hand (pv 0) T.clPost hr (by decide) (pa_cons (pv 1) pa_nil)))), ?_⟩
  obtain ⟨r, ⟨p, x, A, own, dx, kvm, v, rfl, hx, hp, hk, hv, rfl⟩, q⟩ := h
  exact ⟨_, rfl, p, dx, _, rfl, hp, rfl, _, rfl, .non, ⟨p, x, A, own, dx, kvm, v, rfl, hx, hp, hk, hv, rfl⟩, fun H1 e1 => q H1 e1⟩
def rNeedNear (K : PySem.W.Frag) (CP : Addr) : List V → Hp → V → Prop := fun vs H r => ∃ (p : Addr) (m : Int) (A : PAd) (own : Int) (dx : Addr) (near : List Int), vs = [.ref p, .int m] ∧ 0 ≤ m ∧ m ∈ near ∧ H p = some (.ins CP dx (poF own A)) ∧ H A.nl = some (.lst (near.map V.int)) ∧ r = .non
theorem ok_Post_need_near (T : Txt K mg CS CP) (c_is_count : Cal P w K mg base "is_count" 1 ["thing"] (spR rCount)) (F : FnP K "need_near" "Post.need_near" s_Post_need_near f fd) : FnOk P w K mg base CX0 2 f fd ["self", "neighbour"] (spR (rNeedNear K CP)) := by
  refine F.ok sc_Post_need_near (fun vs H Q E h => ?_) (fun cdv A outer s H vs Q E hr h => ?_)
  · obtain ⟨r, ⟨p, x, A, own, dx, kvm, rfl, _⟩, _⟩ := h; rfl
  refine ⟨_, PSs.nox (pss_one (ps_if (PW.pt (pw_or (pt_not (pt_val (pe_c c_is_count hr (by decide) rfl (pa_cons (pv 1) pa_nil)))) (pw_or1 (pt_cmpR op_notIn_seq (pv 1) (pe_fld (pv 0) rfl) (by rfl))))) pss_never pss_nil)), ?_⟩
  obtain ⟨r, ⟨p, m, A, own, dx, near, rfl, h0, hm, hp, hn, rfl⟩, q⟩ := h
  refine s_when (b := false) (et_is (et_or (et_not (et_B (ev_c1 (ea_cons (ev_var rfl) ea_nil) fun H1 e1 => ⟨m, rfl, rfl⟩))) fun _ => et_test (ev_op (ev_var rfl) (ev_fld (ev_var rfl) hp T.clPost T.a_near rfl) (rv_niL (sq_of hn) rfl near_flat))) (by rw [mem_near, decide_eq_true hm, decide_eq_true h0]; rfl)) (fun h => by cases h) fun _ H1 e1 => q H1 e1
def spKnown (P : Program) (w : World) (K : PySem.W.Frag) (CS CP : Addr) : Sp := fun vs H Q _ => ∃ (A : PAd) (near : List Int) (kvm : List (Key × V)) (ents : Ents) (sp : Int → List Wish) (n : Nat) (m : Int), vs = [.ref (PAd.p A), .int m] ∧ PoAt P w K CS CP H A near kvm ents sp n ∧ n ≤ 1000 ∧ m ∈ near ∧
  ∀ p us H', H p = none → Ex H H' → LN K H' p us → us.Perm (hold ents (nS m)) → us.length ≤ n → Q (.ref p) H'
theorem ok_Post_known (T : Txt K mg CS CP) (c_Post_need_near : MCal P w K mg base CP "need_near" 2 ["self", "neighbour"] (spR (rNeedNear K CP)) []) (c_Shelf_wishes : MCal P w K mg base CS "wishes" 5 ["self", "holder"] (spShWishes P w K CS) [])
    (F : FnP K "known" "Post.known" s_Post_known f fd) : FnOk P w K mg base CX0 6 f fd ["self", "neighbour"] (spKnown P w K CS CP) := by
  refine F.ok sc_Post_known (fun vs H Q E h => ?_) (fun cdv A outer s H vs Q E hr h => ?_)
  · obtain ⟨A, near, kvm, ents, sp, n, m, rfl, _⟩ := h; rfl
  refine ⟨_, PSs.nox (pss_cons (ps_expr (pe_m c_Post_need_near (pv 0) T.clPost hr (by decide) (pa_cons (pv 1) pa_nil)))
      (pss_one (ps_ret (pe_m c_Shelf_wishes (pe_fld (pv 0) rfl) T.clShelf hr (by decide) (pa_cons (pe_callTy call_str_int (by rfl) T.n_str bt_str (pa_cons (pv 1) pa_nil)) pa_nil))))), ?_⟩
  obtain ⟨A, near, kvm, ents, sp, n, m, rfl, S, hn, hm, q⟩ := h
  obtain ⟨dx, own, hp⟩ := S.ins
  obtain ⟨b1, b2, b3⟩ := S.nb
  refine ⟨_, rfl, A.p, dx, _, rfl, hp, rfl, _, rfl, .non, ⟨A.p, m, A, own, dx, near, rfl, (b2 m hm).1, hm, hp, S.nr, rfl⟩, fun H1 e1 => ?_⟩
  have S1 := S.ex e1
  obtain ⟨dx1, own1, hp1⟩ := S1.ins
  obtain ⟨many, S2⟩ := S1.sha
  obtain ⟨dx2, hs2⟩ := S2.ins
  have b := b2 m hm
  refine ⟨_, rfl, A.p, CP, dx1, _, .ref A.sh, rfl, hp1, T.clPost, T.a_shelf, rfl, A.sh, dx2, _, rfl, hs2, rfl, _, rfl, m, rfl, lg_small b, A.sh, A.dl, A.dm, ents, many, n, nS m, rfl, S2, hn, nS_holder b.1 b.2, fun p us H' h1 h2 h3 h4 h5 => q p us H' (fresh_back e1 h1) (e1.trans h2) h3 h4 h5⟩
def spSaid (P : Program) (w : World) (K : PySem.W.Frag) (CS CP : Addr) : Sp := fun vs H Q _ => ∃ (A : PAd) (near : List Int) (kvm : List (Key × V)) (ents : Ents) (sp : Int → List Wish) (n : Nat) (m : Int), vs = [.ref (PAd.p A), .int m] ∧ PoAt P w K CS CP H A near kvm ents sp n ∧ m ∈ near ∧
  ∀ p H', H p = none → Ex H H' → LN K H' p (sp m) → Q (.ref p) H'
theorem ok_Post_said (T : Txt K mg CS CP) (c_Post_need_near : MCal P w K mg base CP "need_near" 2 ["self", "neighbour"] (spR (rNeedNear K CP)) [])
    (F : FnP K "said" "Post.said" s_Post_said f fd) : FnOk P w K mg base CX0 3 f fd ["self", "neighbour"] (spSaid P w K CS CP) := by
  refine F.ok sc_Post_said (fun vs H Q E h => ?_) (fun cdv A outer s H vs Q E hr h => ?_)
  · obtain ⟨A, near, kvm, ents, sp, n, m, rfl, _⟩ := h; rfl
  have hu := hu_of hr
  refine ⟨_, PSs.nox (pss_cons (ps_expr (pe_m c_Post_need_near (pv 0) T.clPost hr (by decide) (pa_cons (pv 1) pa_nil)))
      (pss_one (ps_ret (pe_callTy call_list_of (by rfl) T.n_list bt_list (pa_cons (pe_dget hu (pe_fld (pv 0) rfl) (pv 1) (fun _ _ => rfl)) pa_nil))))), ?_⟩
  obtain ⟨A, near, kvm, ents, sp, n, m, rfl, S, hm, q⟩ := h
  obtain ⟨dx, own, hp⟩ := S.ins
  obtain ⟨b1, b2, b3⟩ := S.nb
  refine ⟨_, rfl, A.p, dx, _, rfl, hp, rfl, _, rfl, .non, ⟨A.p, m, A, own, dx, near, rfl, (b2 m hm).1, hm, hp, S.nr, rfl⟩, fun H1 e1 => ?_⟩
  obtain ⟨ksp, hs, _, hk⟩ := S.sdk
  obtain ⟨a, ha, xs, sq, was⟩ := hk m hm
  refine s_retL (el_list (p := a) (xs := xs) (ev_dget (ev_fld (ev_var rfl) (e1 _ _ hp) T.clPost T.a_spoken rfl) (ev_var rfl) (by rw [← ha]; exact DGet.k (k := .inl m) (e1 _ _ hs))) (ex_l e1 sq)) fun p H2 hp2 e2 h2 => q p H2 (fresh_back e1 hp2) (e1.trans e2) ⟨xs, h2, was.ex (e1.trans e2)⟩
end
end K33
/-! K14: Post.__init__, come, news_of_wishes. -/
namespace K33
open PySem PySem.Spec PyProof.Rows L2 Evl TL
/-- what stands stays, but for Z -/
def Fz (Z : List Addr) (H H' : Hp) : Prop := ∀ b o, H b = some o → b ∉ Z → H' b = some o
theorem Fz.trans {S : List Addr} {H H' H2 : Hp} (a : Fz S H H') (b : Fz S H' H2) : Fz S H H2 := fun x o h n => b x o (a x o h n) n
theorem Fz.of {S : List Addr} {H H' : Hp} (e : Ex H H') : Fz S H H' := fun b o h _ => e b o h
theorem Fz.upd {S : List Addr} {H : Hp} {d : Addr} {o : HO} (h : d ∈ S) : Fz S H (L2.upd H d o) := fun b u hb n => by
  rw [upd_ne (fun e => n (by rw [e]; exact h))]; exact hb
theorem Fz.fr {S : List Addr} {H H' : Hp} (f : Fz S H H') : Fr S H H' := fun b o h n _ => f b o h n
theorem Fz.kept {S : List Addr} {H H' : Hp} (f : Fz S H H') (h : ∀ b ∈ S, ∃ o, H b = some o ∧ ¬ Hard o) : Kept H H' := f.fr.kept h
theorem Fz.mono {S S' : List Addr} {H H' : Hp} (f : Fz S H H') (h : ∀ b ∈ S, b ∈ S') : Fz S' H H' := fun b o hb n => f b o hb (fun m => n (h b m))
section
variable {P : Program} {w : World} {K : PySem.W.Frag} {CS CP : Addr} {H H' : Hp} {sh dl dm : Addr} {ents : Ents} {many : NE} {n : Nat}
theorem ShAt.fz (S : ShAt P w K CS H sh dl dm ents many n) {Z : List Addr} (f : Fz Z H H') (hz : ∀ z ∈ Z, z ≠ dl ∧ z ≠ sh ∧ ∃ u, H z = some u ∧ ¬ Hard u ∧ ∀ φ, u ≠ .ext φ) : ShAt P w K CS H' sh dl dm ents many n := by
  have k : Kept H H' := f.kept fun b hb => let ⟨_, _, u, h1, h2, _⟩ := hz b hb; ⟨u, h1, h2⟩
  have nz : ∀ {b φ}, H b = some (.ext φ) → b ∉ Z := fun hb m => by
    obtain ⟨_, _, u, h1, _, h3⟩ := hz _ m
    rw [hb] at h1; cases h1; exact h3 _ rfl
  exact ⟨let ⟨dx, h⟩ := S.ins; ⟨dx, f _ _ h (fun m => (hz _ m).2.1 rfl)⟩, f _ _ S.dk (fun m => (hz _ m).1 rfl), fun e he => (S.dn e he).kept k (f _ _ (S.dn e he).at_ (nz (S.dn e he).at_)), S.dmN.kept k (f _ _ S.dmN.at_ (nz S.dmN.at_)), S.nh, S.na, S.nm, S.ok, S.cn, S.mk', S.bd⟩
/-- the shelf and the post's other things, apart -/
theorem PoAt.apart {A : PAd} {near : List Int} {kvm : List (Key × V)} {sp : Int → List Wish} (S : PoAt P w K CS CP H A near kvm ents sp n) : A.p ∉ Sps A ∧ A.nl ∉ Sps A ∧ A.sh ∉ [A.mk', A.sd] := by
  obtain ⟨dx, o, hp⟩ := S.ins
  obtain ⟨many, Sh⟩ := S.sha
  obtain ⟨dx2, hs⟩ := Sh.ins
  obtain ⟨ksp, hk, _⟩ := S.sdk
  have hl := Sh.dk
  have hm := S.mk'
  have hn := S.nr
  refine ⟨fun h => ?_, fun h => ?_, fun h => ?_⟩
  · simp only [Sps, List.mem_cons, List.not_mem_nil, or_false] at h
    rcases h with h | h | h
    · rw [h, hl] at hp; cases hp
    · rw [h, hm] at hp; cases hp
    · rw [h, hk] at hp; cases hp
  · simp only [Sps, List.mem_cons, List.not_mem_nil, or_false] at h
    rcases h with h | h | h
    · rw [h, hl] at hn; cases hn
    · rw [h, hm] at hn; cases hn
    · rw [h, hk] at hn; cases hn
  · simp only [List.mem_cons, List.not_mem_nil, or_false] at h
    rcases h with h | h
    · rw [h, hm] at hs; cases hs
    · rw [h, hk] at hs; cases hs
theorem PoAt.softZ {A : PAd} {near : List Int} {kvm : List (Key × V)} {sp : Int → List Wish} (S : PoAt P w K CS CP H A near kvm ents sp n) : ∀ z ∈ [A.mk', A.sd], z ≠ A.dl ∧ z ≠ A.sh ∧ ∃ u, H z = some u ∧ ¬ Hard u ∧ ∀ φ, u ≠ .ext φ := by
  obtain ⟨ksp, hk, _⟩ := S.sdk
  have ap := S.apart.2.2
  obtain ⟨n1, n2, _⟩ := S.ne
  intro z hz
  have nz : z ≠ A.sh := fun e => ap (e ▸ hz)
  simp only [List.mem_cons, List.not_mem_nil, or_false] at hz
  rcases hz with h | h
  · subst h; exact ⟨n1, nz, _, S.mk', fun h => h, fun φ h => by cases h⟩
  · subst h; exact ⟨n2, nz, _, hk, fun h => h, fun φ h => by cases h⟩
/-- the post, its marks and spoken lists anew -/
theorem PoAt.re {A : PAd} {near : List Int} {kvm kvm' : List (Key × V)} {sp sp' : Int → List Wish} (S : PoAt P w K CS CP H A near kvm ents sp n) (f : Fz [A.mk', A.sd] H H') (hm : H' A.mk' = some (.dK kvm')) (hl : kvm'.length ≤ 1000)
    (hs : ∃ ksp, H' A.sd = some (.dK ksp) ∧ ksp.length ≤ 1000 ∧ ∀ m ∈ near, ∃ a, valV ksp (.inl m) = some (.ref a) ∧ LA K H' a (sp' m)) (hk : ∀ m ∈ near, AllOk (sp' m) ∧ (sp' m).Nodup ∧ (sp' m).length ≤ 1000) : PoAt P w K CS CP H' A near kvm' ents sp' n := by
  obtain ⟨a1, a2, a3⟩ := S.apart
  obtain ⟨dx, o, hp⟩ := S.ins
  obtain ⟨many, Sh⟩ := S.sha
  exact ⟨⟨dx, o, f _ _ hp fun h => a1 (by simp only [Sps, List.mem_cons, List.not_mem_nil, or_false] at h ⊢; exact .inr h)⟩, f _ _ S.nr fun h => a2 (by simp only [Sps, List.mem_cons, List.not_mem_nil, or_false] at h ⊢; exact .inr h), ⟨many, Sh.fz f S.softZ⟩, hm, hs, hk, S.ne, S.nb, hl⟩
end
/-! ### the letters of a telling -/
def letsOf (sp sp' : Int → List Wish) (m : Int) : List Let := ((sp' m).filter fun u => !decide (u ∈ sp m)).map (fun u => (m, false, u)) ++ ((sp m).filter fun u => !decide (u ∈ sp' m)).map (fun u => (m, true, u))
def nwU (nw : Int → List Wish) (m : Int) (gs : List Wish) : Int → List Wish := fun k => if k = m then gs else nw k
theorem nwU_same {nw : Int → List Wish} {m : Int} {gs : List Wish} : nwU nw m gs m = gs := if_pos rfl
theorem nwU_ne {nw : Int → List Wish} {m k : Int} {gs : List Wish} (h : k ≠ m) : nwU nw m gs k = nw k := if_neg h
theorem lets_same {sp nw : Int → List Wish} {m : Int} {gs : List Wish} : ∀ {l : List Int}, m ∉ l → l.flatMap (letsOf sp (nwU nw m gs)) = l.flatMap (letsOf sp nw)
  | [], _ => rfl
  | k :: l, h => by
    have ne : k ≠ m := fun e => h (by rw [e]; exact List.mem_cons_self ..)
    rw [List.flatMap_cons, List.flatMap_cons, lets_same fun q => h (List.mem_cons_of_mem _ q)]
    unfold letsOf
    rw [nwU_ne ne]
def lets (near : List Int) (sp sp' : Int → List Wish) : List Let := near.flatMap (letsOf sp sp')
section
variable {K : PySem.W.Frag}
/-- the inner loop: wishes of one list that are not in the other, as letters -/
theorem s_news {D : Ends} {i j : Nat} {x0 x1 x4 x5 o0 : Option V} {lt la lo : Addr} {m : Int} {un : Bool} {ws us : List Wish} {ds : List Let} {ls : List V} {B H : Hp}
    (hi : ∀ o, [x0, x1, some (.ref lt), some (.int m), x4, x5, o][i]? = some (some (.ref la))) (hj : ∀ o, [x0, x1, some (.ref lt), some (.int m), x4, x5, o][j]? = some (some (.ref lo)))
    (hl : LA K B la ws) (ho : LA K B lo us) (okw : AllOk ws) (oku : AllOk us) (hB : B lt = none) (e : Ex B H) (h : H lt = some (.lst ls)) (dp : DpAll K (del H lt) ls (ds.map leD)) (hz : ls.length + ws.length ≤ 90000)
    (k : ∀ o H' ls', Ex B H' → H' lt = some (.lst ls') → DpAll K (del H' lt) ls' ((ds ++ (ws.filter fun u => !decide (u ∈ us)).map fun u => (m, un, u)).map leD) → D.nx [x0, x1, some (.ref lt), some (.int m), x4, x5, o] H') :
    tFor (iList K (tVar i)) (gName 6) (tIfS (tTest (tOp (rNotInD K) (tVar 6) (tVar j))) (tDrop (tBM K "list" rAppend (tVar 2) (tCons (tTup (tCons (tVar 3) (tCons (tTup (tCons (tC (.str (kindS un))) (tCons (tVar 6) tNil))) tNil))) tNil))) tNext) D [x0, x1, some (.ref lt), some (.int m), x4, x5, o0] H := by
  obtain ⟨xs, sq, was⟩ := hl
  have lx := was.length
  refine s_forLn (ev_var (hi _)) (ex_l e sq) (fun n σ' H' => (∃ o, σ' = [x0, x1, some (.ref lt), some (.int m), x4, x5, o]) ∧ Ex B H' ∧ ∃ ls', H' lt = some (.lst ls') ∧ ls'.length ≤ ls.length + n ∧ DpAll K (del H' lt) ls' ((ds ++ ((ws.take n).filter fun u => !decide (u ∈ us)).map fun u => (m, un, u)).map leD))
    (fun H1 e1 => ⟨⟨_, rfl⟩, e.trans e1, ls, e1 _ _ h, Nat.le_refl _, by simpa using dp.ex (del_ex e1)⟩) (fun n σ' H' _ p => ex_l p.2.1 sq) (fun n x σ' H' hx p => ?_) fun σ' H' p => ?_
  · obtain ⟨⟨o, rfl⟩, e1, ls', h1, hl1, dp1⟩ := p
    obtain ⟨wi, hw, wa⟩ := was.get hx
    have hn : n < ws.length := (List.getElem?_eq_some_iff.mp hw).1
    have ok1 := okw wi (List.mem_of_getElem? hw)
    refine s_when (et_test (ev_op (ev_var rfl) (ev_var (hj _)) (rv_ninW (wa.ex e1) (ho.ex e1) ok1 oku))) (fun hb H2 e2 => ?_) (fun hb H2 e2 => ?_)
    · have h2 := e2 _ _ h1
      refine ⟨_, rfl, Or.inl ⟨rfl, _, sq_of h2⟩, _, rfl, _, rfl, show 2 ≤ sizeLine by decide, fun t1 ht1 => ⟨show 2 ≤ sizeLine by decide, fun t2 ht2 => ?_⟩⟩
      have n1 : t1 ≠ lt := Ne.symm (ne_of_none h2 ht1)
      have h3 : upd H2 t1 (.tup [.str (kindS un), x]) lt = some (.lst ls') := by rw [upd_ne (Ne.symm n1)]; exact h2
      have n2 : t2 ≠ lt := Ne.symm (ne_of_none h3 ht2)
      refine ⟨lt, ls', .ref t2, rfl, rfl, by rw [upd_ne (Ne.symm n2)]; exact h3, sz_lt (by omega), ⟨_, rfl⟩, ?_, _, upd_same, by rw [List.length_append]; show ls'.length + 1 ≤ _; omega, ?_⟩
      · exact Ex.mut (((e1.trans e2).trans (Ex.new ht1)).trans (Ex.new ht2)) hB
      · have n12 : t1 ≠ t2 := ne_of_none (o := .tup [.str (kindS un), x]) upd_same ht2
        have eq : (ds ++ ((ws.take n ++ [wi]).filter fun u => !decide (u ∈ us)).map fun u => (m, un, u)).map leD = (ds ++ ((ws.take n).filter fun u => !decide (u ∈ us)).map fun u => (m, un, u)).map leD ++ [leD (m, un, wi)] := by
          rw [List.filter_append, List.filter_cons_of_pos (p := fun u => !decide (u ∈ us)) hb]
          simp
        rw [del_upd, take_of hw, eq]
        refine (dp1.ex (del_ex ((e2.trans (Ex.new ht1)).trans (Ex.new ht2)))).append (.cons (.tup (st_of (by rw [del_ne n2, upd_same])) (.cons (.int m) (.cons (.tup (st_of (by rw [del_ne n1, upd_ne n12, upd_same])) (.cons (.str _) (.cons ?_ .nil))) .nil))) .nil)
        have ex0 : Ex B (del (upd (upd H2 t1 (.tup [.str (kindS un), x])) t2 (.tup [.int m, .ref t1])) lt) := ex_in_del (((e1.trans e2).trans (Ex.new ht1)).trans (Ex.new ht2)) hB
        exact wa.ex ex0
    · refine ⟨⟨_, rfl⟩, e1.trans e2, ls', e2 _ _ h1, by omega, ?_⟩
      rw [take_of hw, List.filter_append, List.filter_cons_of_neg (by simpa using hb)]
      simpa using dp1.ex (del_ex e2)
  · obtain ⟨⟨o, rfl⟩, e1, ls', h1, hl1, dp1⟩ := p
    rw [lx, List.take_length] at dp1
    exact k o H' ls' e1 h1 dp1
theorem WAs.st1 {H H' : Hp} (st : ∀ a xs, SqT K H a xs → SqT K H' a xs) {v : V} {wi : Wish} (h : WA K H v wi) : WA K H' v wi := by
  obtain ⟨a, xs, rfl, sq, dp⟩ := h.ref
  have all : ∀ (l : Wish) (ys : List V), DpAll K H ys (l.map pD) → DpAll K H' ys (l.map pD) := by
    intro l
    induction l with
    | nil => intro ys h; cases h; exact .nil
    | cons p l ih =>
      intro ys h
      cases h with
      | cons h1 h2 =>
        obtain ⟨t, rfl, st1⟩ := pD_inv h1
        exact .cons (.tup (st _ _ st1) (.cons (.str _) (.cons (oD_of _) (.cons (oD_of _) .nil)))) (ih _ h2)
  exact .tup (st _ _ sq) (all wi xs dp)
theorem WAs.st {H H' : Hp} (st : ∀ a xs, SqT K H a xs → SqT K H' a xs) : ∀ {ws : List Wish} {xs : List V}, WAs K H xs ws → WAs K H' xs ws
  | [], [], _ => .nil
  | [], _ :: _, h => nomatch h
  | w :: ws, [], h => nomatch h
  | w :: ws, x :: xs, .cons h1 h2 => .cons (WAs.st1 st h1) (WAs.st st h2)
theorem st_del {H : Hp} {p : Addr} {zs : List V} (h : H p = some (.lst zs)) {a : Addr} {xs : List V} (s : SqT K H a xs) : SqT K (del H p) a xs := by
  rcases s with (s | ⟨o, s⟩) | s
  · exact .inl (.inl (by rw [del_ne (fun e => by subst e; rw [h] at s; cases s)]; exact s))
  · exact .inl (.inr ⟨o, by rw [del_ne (fun e => by subst e; rw [h] at s; cases s)]; exact s⟩)
  · exact .inr s
theorem kept_del {H H' : Hp} {p : Addr} (k : Kept H H') : Kept (del H p) (del H' p) := fun b o hb hh => by
  by_cases e : b = p
  · subst e; rw [del_same] at hb; cases hb
  · rw [del_ne e] at hb ⊢; exact k _ _ hb hh
theorem length_put_old {kvs : List (Key × V)} {k : Key} {x v : V} (h : valV kvs k = some x) : (putK kvs k v).length = kvs.length := by
  unfold putK
  rw [if_pos (by rw [valV_any, h]; rfl), List.length_map]
theorem q_news {D : Ends} {tz : TS} {i j : Nat} {x0 x1 x4 x5 o0 : Option V} {lt la lo : Addr} {m : Int} {un : Bool} {ws us : List Wish} {ds : List Let} {ls : List V} {B H : Hp}
    (hi : ∀ o, [x0, x1, some (.ref lt), some (.int m), x4, x5, o][i]? = some (some (.ref la))) (hj : ∀ o, [x0, x1, some (.ref lt), some (.int m), x4, x5, o][j]? = some (some (.ref lo)))
    (hl : LA K B la ws) (ho : LA K B lo us) (okw : AllOk ws) (oku : AllOk us) (hB : B lt = none) (e : Ex B H) (h : H lt = some (.lst ls)) (dp : DpAll K (del H lt) ls (ds.map leD)) (hz : ls.length + ws.length ≤ 90000)
    (k : ∀ o H' ls', Ex B H' → H' lt = some (.lst ls') → DpAll K (del H' lt) ls' ((ds ++ (ws.filter fun u => !decide (u ∈ us)).map fun u => (m, un, u)).map leD) → tz D [x0, x1, some (.ref lt), some (.int m), x4, x5, o] H') :
    tSeq (tFor (iList K (tVar i)) (gName 6) (tIfS (tTest (tOp (rNotInD K) (tVar 6) (tVar j))) (tDrop (tBM K "list" rAppend (tVar 2) (tCons (tTup (tCons (tVar 3) (tCons (tTup (tCons (tC (.str (kindS un))) (tCons (tVar 6) tNil))) tNil))) tNil))) tNext)) tz D [x0, x1, some (.ref lt), some (.int m), x4, x5, o0] H :=
  s_news (D := { D with nx := tz D }) hi hj hl ho okw oku hB e h dp hz k
end
section
variable {P : Program} {w : World} {K : PySem.W.Frag} {mg : Str → Option Value} {base : Heap} {CS CP f : Addr} {fd : FuncData}
def spNews (P : Program) (w : World) (K : PySem.W.Frag) (CS CP : Addr) : Sp := fun vs H Q _ => ∃ (A : PAd) (near : List Int) (kvm : List (Key × V)) (ents : Ents) (sp : Int → List Wish) (n : Nat), vs = [.ref A.p, .ref A.nl] ∧ PoAt P w K CS CP H A near kvm ents sp n ∧ n ≤ 40 ∧ (∀ m ∈ near, (sp m).length ≤ 40) ∧
  ∀ v H' sp', PoAt P w K CS CP H' A near kvm ents sp' n → Stl near ents sp' → (∀ m ∈ near, (sp' m).length ≤ n) → LtA K H' v (lets near sp sp') → Fz [A.mk', A.sd] H H' → Q v H'
theorem ok_Post_news (T : Txt K mg CS CP) (c_Shelf_greatest_kw : WCal P w K mg base CS "greatest" "beside" 5 ["self", "beside"] (spGreat P w K CS)) (F : FnP K "news_of_wishes" "Post.news_of_wishes" s_Post_news_of_wishes f fd) : FnOk P w K mg base CX0 6 f fd ["self", "near"] (spNews P w K CS CP) := by
  refine F.ok sc_Post_news_of_wishes (fun vs H Q E h => ?_) (fun cdv A outer s H vs Q E hr h => ?_)
  · obtain ⟨A, near, kvm, ents, sp, n, rfl, _⟩ := h; rfl
  have hu := hu_of hr
  have hu65 := u65 hr
  refine ⟨_, PSs.nox (pss_cons (ps_set (i := 2) sc_Post_news_of_wishes.nd rfl (Or.inl rfl) (pe_lst pa_nil))
      (pss_cons (ps_for PassesOwn.never rfl (pi_list (pv 1)) (pg_name (i := 3) sc_Post_news_of_wishes.nd rfl (Or.inl rfl)) (pss_cons (ps_set (i := 4) sc_Post_news_of_wishes.nd rfl (Or.inl rfl) (pe_dget hu (pe_fld (pv 0) rfl) (pv 3) (fun _ _ => rfl)))
      (pss_cons (ps_set (i := 5) sc_Post_news_of_wishes.nd rfl (Or.inl rfl) (pe_mkw c_Shelf_greatest_kw (pe_fld (pv 0) rfl) T.clShelf hr (by decide) (pk_cons (pe_callTy call_str_int (by rfl) T.n_str bt_str (pa_cons (pv 3) pa_nil)) pk_nil)))
      (pss_cons (ps_for PassesOwn.never rfl (pi_list (pv 5)) (pg_name (i := 6) sc_Post_news_of_wishes.nd rfl (Or.inl rfl)) (pss_one (ps_if (pt_cmpR (r := rNotInD K) (op_notInD hu65) (pv 6) (pv 4) (by rfl)) (pss_one (ps_expr (pe_bm PySem.F.plainAttrs_list PySem.F.slot_list_append PySem.F.type_list_append mt_append (pv 2) (pa_cons (pe_tup (pa_cons (pv 3) (pa_cons (pe_tup (pa_cons pe_str (pa_cons (pv 6) pa_nil))) pa_nil))) pa_nil)))) pss_nil)))
      (pss_cons (ps_for PassesOwn.never rfl (pi_list (pv 4)) (pg_name (i := 6) sc_Post_news_of_wishes.nd rfl (Or.inl rfl)) (pss_one (ps_if (pt_cmpR (r := rNotInD K) (op_notInD hu65) (pv 6) (pv 5) (by rfl)) (pss_one (ps_expr (pe_bm PySem.F.plainAttrs_list PySem.F.slot_list_append PySem.F.type_list_append mt_append (pv 2) (pa_cons (pe_tup (pa_cons (pv 3) (pa_cons (pe_tup (pa_cons pe_str (pa_cons (pv 6) pa_nil))) pa_nil))) pa_nil)))) pss_nil)))
      (pss_one (ps_dput hu (pe_fld (pv 0) rfl) (pv 3) (pv 5) rfl)))))))
      (pss_one (ps_ret (pv 2))))), ?_⟩
  obtain ⟨A, near, kvm, ents, sp, n, rfl, S, hn, hsp, q⟩ := h
  obtain ⟨dx, own, hp⟩ := S.ins
  obtain ⟨many, Sh⟩ := S.sha
  obtain ⟨dx2, hs⟩ := Sh.ins
  obtain ⟨ksp, hk, hkl, hkv⟩ := S.sdk
  obtain ⟨nd, b2, b3⟩ := S.nb
  obtain ⟨ne1, ne2, ne3⟩ := S.ne
  obtain ⟨ap1, ap2, ap3⟩ := S.apart
  have nsd : ∀ {b o}, H b = some o → (∀ k, o ≠ .dK k) → b ≠ A.sd := fun hb h e => by subst e; rw [hk] at hb; cases hb; exact h _ rfl
  refine q_asgL (el_lst ea_nil (Nat.zero_le _)) fun lt H1 hlt e1 h1 => ?_
  have hlt0 : H lt = none := hlt
  have nlt : ∀ {b o}, H b = some o → b ≠ lt := fun hb => ne_of_none hb hlt0
  -- the base: what stood, without the spoken lists' dict
  refine q_forLn (ev_var rfl) (sq_of (e1 _ _ S.nr)) (fun i σ' H' => (∃ x3 x4 x5 x6, σ' = [some (.ref A.p), some (.ref A.nl), some (.ref lt), x3, x4, x5, x6]) ∧ Ex (del H A.sd) H' ∧ ∃ nw ls kk, H' lt = some (.lst ls) ∧ ls.length ≤ 80 * i ∧ DpAll K (del H' lt) ls ((lets (near.take i) sp nw).map leD) ∧ H' A.sd = some (.dK kk) ∧ kk.length ≤ 1000 ∧
      ∀ m ∈ near, (m ∈ near.take i → (∃ a, valV kk (.inl m) = some (.ref a) ∧ LA K (del H' lt) a (nw m)) ∧ IsGr (nw m) (oth ents (nS m)) ∧ (nw m).length ≤ n) ∧ (m ∉ near.take i → valV kk (.inl m) = valV ksp (.inl m)))
    (fun H2 e2 => ⟨⟨_, _, _, _, rfl⟩, ex_del.trans (e1.trans e2), sp, [], ksp, e2 _ _ h1, Nat.zero_le _, .nil, e2 _ _ (e1 _ _ hk), hkl, fun m hm => ⟨fun h => by simp at h, fun _ => rfl⟩⟩) (fun i σ' H' _ p => ex_l p.2.1 (sq_of (by rw [del_ne (nsd S.nr fun k h => by cases h)]; exact S.nr))) (fun i x σ' H' hi p => ?_) fun σ' H' p => ?_
  · obtain ⟨⟨x3, x4, x5, x6, rfl⟩, ex, nw, ls, kk, hl, hll, dp, hkk, hkkl, hv⟩ := p
    rw [List.getElem?_map] at hi
    obtain ⟨m, hm, rfl⟩ := Option.map_eq_some_iff.mp hi
    have hmem : m ∈ near := List.mem_of_getElem? hm
    have hb := b2 m hmem
    have hlen : i < near.length := (List.getElem?_eq_some_iff.mp hm).1
    have hnt : m ∉ near.take i := fun h => by
      have nd2 : (near.take i ++ near.drop i).Nodup := by rw [List.take_append_drop]; exact nd
      exact (List.nodup_append.mp nd2).2.2 _ h m (by rw [drop_of hm]; exact List.mem_cons_self ..) rfl
    obtain ⟨a, ha, la⟩ := hkv m hmem
    have hva : valV kk (.inl m) = some (.ref a) := by rw [(hv m hmem).2 hnt, ha]
    have kdel : Kept H (del H A.sd) := fun b o hb hh => by rw [del_ne (nsd hb fun k h => by subst h; exact hh)]; exact hb
    have hpd : del H A.sd A.p = some (.ins CP dx (poF own A)) := by rw [del_ne (nsd hp fun k h => by cases h)]; exact hp
    have hp1 := ex _ _ hpd
    refine q_asg (ev_dget (ev_fld (ev_var rfl) hp1 T.clPost T.a_spoken rfl) (ev_var rfl) (by rw [← hva]; exact DGet.k (k := .inl m) hkk)) fun H3 e3 => ?_
    have Shd : ShAt P w K CS (del H A.sd) A.sh A.dl A.dm ents many n := Sh.fz (Z := [A.sd]) (fun b o hb hn => by rw [del_ne (fun e => hn (List.mem_singleton.mpr e))]; exact hb) (fun z hz => S.softZ z (by rw [List.mem_singleton.mp hz]; simp))
    have Sh3 := Shd.ex (ex.trans e3)
    obtain ⟨dx3, hs3⟩ := Sh3.ins
    refine ⟨_, rfl, A.p, CP, dx, _, .ref A.sh, rfl, e3 _ _ hp1, T.clPost, T.a_shelf, rfl, A.sh, dx3, _, rfl, hs3, rfl, _, rfl, m, rfl, lg_small hb, _, rfl, A.sh, A.dl, A.dm, ents, many, n, Sh3, by omega, .inr ⟨nS m, rfl, nS_holder hb.1 hb.2, fun g gs H4 hg e4 ln gr lg => ?_⟩⟩
    have la3 : LA K (del H A.sd) a (sp m) := Kept.la kdel la
    have e34 := e3.trans e4
    have hl4 := e34 _ _ hl
    have hB : del H4 lt lt = none := del_same
    have hln : LA K (del H4 lt) g gs := by
      obtain ⟨rs, hr1, was⟩ := ln
      have ng : g ≠ lt := Ne.symm (ne_of_none (e3 _ _ hl) hg)
      exact ⟨rs, sq_of (by rw [del_ne ng]; exact hr1), WAs.st (fun _ _ => st_del hl4) was⟩
    have hdlt : del H A.sd lt = none := by
      by_cases e : lt = A.sd
      · rw [e]; exact del_same
      · rw [del_ne e]; exact hlt0
    have exB : Ex (del H A.sd) (del H4 lt) := ex_in_del (ex.trans e34) hdlt
    have lab : LA K (del H4 lt) a (sp m) := la3.ex exB
    have okg : AllOk gs := isGr_ok gr (Sh.ook _)
    obtain ⟨ok0, nd0, _⟩ := S.spk m hmem
    have l0 := hsp m hmem
    have lnn : near.length ≤ 100 := b3
    refine q_news (un := false) (i := 5) (j := 4) (la := g) (lo := a) (ws := gs) (us := sp m) (B := del H4 lt) (fun _ => rfl) (fun _ => rfl) hln lab okg ok0 hB ex_del hl4 (dp.ex (del_ex e34)) (by omega) fun o5 H5 ls5 ex5 h5 dp5 => ?_
    have ll5 := dp5.length
    rw [List.length_map, List.length_append, List.length_map] at ll5
    have ll0 := dp.length
    rw [List.length_map] at ll0
    have lf := List.length_filter_le (fun u => !decide (u ∈ sp m)) gs
    refine q_news (un := true) (i := 4) (j := 5) (la := a) (lo := g) (ws := sp m) (us := gs) (B := del H4 lt) (fun _ => rfl) (fun _ => rfl) lab hln ok0 okg hB ex5 h5 dp5 (by omega) fun o6 H6 ls6 ex6 h6 dp6 => ?_
    have ll6 := dp6.length
    rw [List.length_map, List.length_append, List.length_append, List.length_map, List.length_map] at ll6
    have lf2 := List.length_filter_le (fun u => !decide (u ∈ gs)) (sp m)
    have nslt : A.sd ≠ lt := nlt hk
    have hk4 : del H4 lt A.sd = some (.dK kk) := by rw [del_ne nslt]; exact e34 _ _ hkk
    have hk6 := ex6 _ _ hk4
    have exd6 : Ex (del H A.sd) H6 := exB.trans ex6
    refine ⟨_, rfl, _, rfl, A.p, CP, dx, _, .ref A.sd, rfl, exd6 _ _ hpd, T.clPost, T.a_spoken, rfl, _, rfl, A.sd, _, rfl, DPut.k (k := .inl m) hk6 (sz_lt (by omega)), ?_⟩
    have k67 : Kept H6 (upd H6 A.sd (.dK (putK kk (.inl m) (.ref g)))) := .upd hk6 not_hard_dK
    have k67d : Kept (del H6 lt) (del (upd H6 A.sd (.dK (putK kk (.inl m) (.ref g)))) lt) := kept_del k67
    have exB6 : Ex (del H4 lt) (del H6 lt) := ex_in_del ex6 hB
    have hletm : letsOf sp (nwU nw m gs) m = (gs.filter fun u => !decide (u ∈ sp m)).map (fun u => (m, false, u)) ++ ((sp m).filter fun u => !decide (u ∈ gs)).map (fun u => (m, true, u)) := by
      unfold letsOf
      rw [nwU_same]
    have hlet : lets (near.take (i + 1)) sp (nwU nw m gs) = (lets (near.take i) sp nw ++ (gs.filter fun u => !decide (u ∈ sp m)).map fun u => (m, false, u)) ++ ((sp m).filter fun u => !decide (u ∈ gs)).map (fun u => (m, true, u)) := by
      unfold lets
      rw [take_of hm, List.flatMap_append, List.flatMap_cons, List.flatMap_nil, List.append_nil, hletm, List.append_assoc]
      rw [lets_same hnt]
    refine ⟨⟨_, _, _, _, rfl⟩, Ex.mut exd6 del_same, (nwU nw m gs), ls6, _, by rw [upd_ne (Ne.symm nslt)]; exact h6, by omega, ?_, upd_same, by rw [length_put_old hva]; exact hkkl, fun k hkn => ⟨fun hkt => ?_, fun hkt => ?_⟩⟩
    · rw [hlet]; exact k67d.dps dp6
    · by_cases e : k = m
      · subst e
        rw [nwU_same]
        exact ⟨⟨g, by rw [valV_put, if_pos rfl], Kept.la k67d (hln.ex exB6)⟩, gr, lg⟩
      · rw [nwU_ne e]
        have hkt' : k ∈ near.take i := by
          rw [take_of hm] at hkt
          rcases List.mem_append.mp hkt with h | h
          · exact h
          · exact absurd (List.mem_singleton.mp h) e
        obtain ⟨⟨a', ha', la'⟩, g1, g2⟩ := (hv k hkn).1 hkt'
        exact ⟨⟨a', by rw [valV_put, if_neg (fun h => e (Sum.inl.inj h))]; exact ha', Kept.la k67d ((la'.ex (del_ex e34)).ex exB6)⟩, g1, g2⟩
    · rw [take_of hm] at hkt
      have e : k ≠ m := fun h => hkt (List.mem_append_right _ (List.mem_singleton.mpr h))
      rw [valV_put, if_neg (fun h => e (Sum.inl.inj h))]
      exact (hv k hkn).2 fun h => hkt (List.mem_append_left _ h)
  · obtain ⟨⟨x3, x4, x5, x6, rfl⟩, ex, nw, ls, kk, hl, hll, dp, hkk, hkkl, hv⟩ := p
    rw [show near.take (near.map V.int).length = near from by rw [List.length_map, List.take_length]] at hv dp
    refine s_ret (ev_var rfl) fun H2 e2 => ?_
    have fz : Fz [A.mk', A.sd] H H2 := fun b o hb hn => (ex.trans e2) _ _ (by rw [del_ne (fun e => hn (by rw [e]; simp))]; exact hb)
    refine q _ H2 nw (S.re fz ((ex.trans e2) _ _ (by rw [del_ne ne3]; exact S.mk')) S.kb ⟨kk, e2 _ _ hkk, hkkl, fun m hm => ?_⟩ fun m hm => ?_) (fun m hm => ((hv m hm).1 hm).2.1) (fun m hm => ((hv m hm).1 hm).2.2) ⟨lt, ls, rfl, e2 _ _ hl, dp.ex (ex_del.trans e2)⟩ fz
    · obtain ⟨a, h1, h2⟩ := ((hv m hm).1 hm).1
      exact ⟨a, h1, h2.ex (ex_del.trans e2)⟩
    · obtain ⟨_, g1, g2⟩ := (hv m hm).1 hm
      exact ⟨isGr_ok g1 (Sh.ook _), g1.nd, by omega⟩
end
end K33
/-! K15: Post.__init__, come. -/
namespace K33
open PySem PySem.Spec PyProof.Rows L2 Evl TL
section
variable {P : Program} {w : World} {K : PySem.W.Frag} {mg : Str → Option Value} {base : Heap} {CS CP f : Addr} {fd : FuncData}
def spPoInit (P : Program) (w : World) (K : PySem.W.Frag) (CS CP : Addr) : Sp := fun vs H Q _ => ∃ p dx own a near, vs = [.ref p, .int own, .ref a] ∧ H p = some (.ins CP dx []) ∧ SqL K H a (near.map V.int) ∧ (near.Nodup ∧ (∀ m ∈ near, 0 ≤ m ∧ m < 1000000) ∧ near.length ≤ 100) ∧
  ∀ H' A, PAd.p A = p → PoAt P w K CS CP H' A near [] [] (fun _ => []) 0 → Fz [p] H H' → Q .non H'
theorem ok_Post_init (T : Txt K mg CS CP) (c_Shelf_init : KCal P w K mg base CS "Shelf" 1 ["self"] (spShInit P w CS)) (F : FnP K "__init__" "Post.__init__" s_Post_init f fd) : FnOk P w K mg base CX0 3 f fd ["self", "number", "neighbours"] (spPoInit P w K CS CP) := by
  refine F.ok sc_Post_init (fun vs H Q E h => ?_) (fun cdv A outer s H vs Q E hr h => ?_)
  · obtain ⟨p, dx, own, a, near, rfl, _⟩ := h; rfl
  have hu := hu_of hr
  refine ⟨_, PSs.nox (pss_cons (ps_fld (pv 0) (pv 1) rfl)
      (pss_cons (ps_fld (pv 0) (pe_callTy call_list_of (by rfl) T.n_list bt_list (pa_cons (pv 2) pa_nil)) rfl)
      (pss_cons (ps_fld (pv 0) (pe_mk0 c_Shelf_init hr (by decide) rfl) rfl)
      (pss_cons (ps_fld (pv 0) pe_dnewK rfl)
      (pss_cons (ps_fld (pv 0) pe_int rfl)
      (pss_cons (ps_fld (pv 0) pe_dnewK rfl)
      (pss_one (ps_for PassesOwn.never rfl (pi_list (pv 2)) (pg_name (i := 3) sc_Post_init.nd rfl (Or.inl rfl)) (pss_one (ps_dput hu (pe_fld (pv 0) rfl) (pv 3) (pe_lst pa_nil) rfl)))))))))), ?_⟩
  obtain ⟨p, dx, own, a, near, rfl, hp, sq, nb, q⟩ := h
  refine ⟨_, rfl, _, rfl, p, CP, dx, [], rfl, hp, T.clPost, T.a_own, (by show 0 < 1000; decide), ?_⟩
  have k1 : Kept H (upd H p (.ins CP dx (putF "own" (.int own) []))) := .upd hp (fun h => h)
  have f1 : Fz [p] H (upd H p (.ins CP dx (putF "own" (.int own) []))) := .upd (List.mem_singleton.mpr rfl)
  have h1 : upd H p (.ins CP dx (putF "own" (.int own) [])) p = some (.ins CP dx [("own", .int own)]) := upd_same
  dsimp only
  generalize upd H p (.ins CP dx (putF "own" (.int own) [])) = H1 at k1 f1 h1 ⊢
  refine ⟨_, rfl, a, _, rfl, .inl (k1.sl sq), fun nl hnl => ?_⟩
  have npl : p ≠ nl := ne_of_none h1 hnl
  refine ⟨_, rfl, p, CP, dx, _, rfl, by rw [upd_ne npl]; exact h1, T.clPost, T.a_near, (by show 1 < 1000; decide), ?_⟩
  have e2 := Ex.new (o := .lst (near.map V.int)) hnl
  have h2n : upd H1 nl (.lst (near.map V.int)) nl = some (.lst (near.map V.int)) := upd_same
  have h2p := e2 _ _ h1
  generalize upd H1 nl (.lst (near.map V.int)) = H2 at e2 h2n h2p ⊢
  have k3 : Kept H2 (upd H2 p (.ins CP dx (putF "near" (.ref nl) [("own", .int own)]))) := .upd h2p (fun h => h)
  have f3 : Fz [p] H2 (upd H2 p (.ins CP dx (putF "near" (.ref nl) [("own", .int own)]))) := .upd (List.mem_singleton.mpr rfl)
  have h3p : upd H2 p (.ins CP dx (putF "near" (.ref nl) [("own", .int own)])) p = some (.ins CP dx [("own", .int own), ("near", .ref nl)]) := upd_same
  have h3n : upd H2 p (.ins CP dx (putF "near" (.ref nl) [("own", .int own)])) nl = some (.lst (near.map V.int)) := by rw [upd_ne (Ne.symm npl)]; exact h2n
  dsimp only
  generalize upd H2 p (.ins CP dx (putF "near" (.ref nl) [("own", .int own)])) = H3 at k3 f3 h3p h3n ⊢
  have f03 : Fz [p] H H3 := f1.trans ((Fz.of e2).trans f3)
  have k03 : Kept H H3 := k1.trans ((Kept.of e2).trans k3)
  -- the shelf
  refine fun sh dx2 hsh hdx2 nsd => ⟨sh, dx2, rfl, upd_same, fun H4 dl dm hdl hdm ndm h4s h4l h4m f4 => ⟨rfl, ?_⟩⟩
  have nshp : p ≠ sh := ne_of_none h3p hsh
  have ndxp : p ≠ dx2 := ne_of_none h3p hdx2
  have e34 : ∀ b o, H3 b = some o → H4 b = some o := fun b o hb => by
    have n1 : b ≠ sh := ne_of_none hb hsh
    have n2 : b ≠ dx2 := ne_of_none hb hdx2
    exact f4 _ _ (by rw [upd_ne n1, upd_ne n2]; exact hb) n1
  have e34 : Ex H3 H4 := e34
  have h4p := e34 _ _ h3p
  have h4n := e34 _ _ h3n
  have Sh4 : ShAt P w K CS H4 sh dl dm [] [] 0 := ⟨⟨dx2, h4s⟩, h4l, fun e he => (by cases he), ⟨h4m, fun x hx => (by cases hx), List.nodup_nil⟩, List.nodup_nil, List.nodup_nil, fun e he => (by cases he), fun e he => (by cases he), fun x hx => (by cases hx), fun u => ⟨fun h => (by cases h), fun h => (by cases h)⟩, ⟨Nat.le_refl _, Nat.le_refl _, Nat.le_refl _⟩⟩
  refine ⟨_, rfl, p, CP, dx, _, rfl, h4p, T.clPost, T.a_shelf, (by show 2 < 1000; decide), ?_⟩
  have f5 : Fz [p] H4 (upd H4 p (.ins CP dx (putF "shelf" (.ref sh) [("own", .int own), ("near", .ref nl)]))) := .upd (List.mem_singleton.mpr rfl)
  have npsh : p ≠ dl := fun e => by rw [e, h4l] at h4p; cases h4p
  have soft5 : ∀ z ∈ [p], z ≠ dl ∧ z ≠ sh ∧ ∃ u, H4 z = some u ∧ ¬ Hard u ∧ ∀ φ, u ≠ .ext φ := fun z hz => by
    rw [List.mem_singleton.mp hz]
    exact ⟨npsh, nshp, _, h4p, fun h => h, fun φ h => by cases h⟩
  have Sh5 := Sh4.fz f5 soft5
  have k5 : Kept H4 (upd H4 p (.ins CP dx (putF "shelf" (.ref sh) [("own", .int own), ("near", .ref nl)]))) := .upd h4p (fun h => h)
  have h5p : upd H4 p (.ins CP dx (putF "shelf" (.ref sh) [("own", .int own), ("near", .ref nl)])) p = some (.ins CP dx [("own", .int own), ("near", .ref nl), ("shelf", .ref sh)]) := upd_same
  have h5n := f5 _ _ h4n (fun h => npl (List.mem_singleton.mp h).symm)
  dsimp only
  generalize upd H4 p (.ins CP dx (putF "shelf" (.ref sh) [("own", .int own), ("near", .ref nl)])) = H5 at f5 Sh5 k5 h5p h5n ⊢
  have f05 : Fz [p] H H5 := f03.trans ((Fz.of e34).trans f5)
  have k05 : Kept H H5 := k03.trans ((Kept.of e34).trans k5)
  -- the marks
  refine fun mk hmk => ⟨_, rfl, p, CP, dx, _, rfl, by rw [upd_ne (ne_of_none h5p hmk)]; exact h5p, T.clPost, T.a_marked, (by show 3 < 1000; decide), ?_⟩
  have e6 := Ex.new (o := .dK []) hmk
  have h6m : upd H5 mk (.dK []) mk = some (.dK []) := upd_same
  have nmk : mk ≠ dl := fun e => by rw [e] at hmk; rw [Sh5.dk] at hmk; cases hmk
  generalize upd H5 mk (.dK []) = H6 at e6 h6m ⊢
  have h6p := e6 _ _ h5p
  have Sh6 := Sh5.ex e6
  have h6n := e6 _ _ h5n
  have f7 : Fz [p] H6 (upd H6 p (.ins CP dx (putF "marked" (.ref mk) [("own", .int own), ("near", .ref nl), ("shelf", .ref sh)]))) := .upd (List.mem_singleton.mpr rfl)
  have Sh7 := Sh6.fz f7 (fun z hz => by rw [List.mem_singleton.mp hz]; exact ⟨npsh, nshp, _, h6p, fun h => h, fun φ h => by cases h⟩)
  have k7 : Kept H6 (upd H6 p (.ins CP dx (putF "marked" (.ref mk) [("own", .int own), ("near", .ref nl), ("shelf", .ref sh)]))) := .upd h6p (fun h => h)
  have h7p : upd H6 p (.ins CP dx (putF "marked" (.ref mk) [("own", .int own), ("near", .ref nl), ("shelf", .ref sh)])) p = some (.ins CP dx [("own", .int own), ("near", .ref nl), ("shelf", .ref sh), ("marked", .ref mk)]) := upd_same
  have npmk : p ≠ mk := fun e => by rw [e, h6m] at h6p; cases h6p
  have h7n := f7 _ _ h6n (fun h => npl (List.mem_singleton.mp h).symm)
  have h7m := f7 _ _ h6m (fun h => npmk (List.mem_singleton.mp h).symm)
  dsimp only
  generalize upd H6 p (.ins CP dx (putF "marked" (.ref mk) [("own", .int own), ("near", .ref nl), ("shelf", .ref sh)])) = H7 at f7 Sh7 k7 h7p h7n h7m ⊢
  -- tellings
  refine ⟨_, rfl, p, CP, dx, _, rfl, h7p, T.clPost, T.a_tellings, (by show 4 < 1000; decide), ?_⟩
  have f8 : Fz [p] H7 (upd H7 p (.ins CP dx (putF "tellings" (.int 0) [("own", .int own), ("near", .ref nl), ("shelf", .ref sh), ("marked", .ref mk)]))) := .upd (List.mem_singleton.mpr rfl)
  have Sh8 := Sh7.fz f8 (fun z hz => by rw [List.mem_singleton.mp hz]; exact ⟨npsh, nshp, _, h7p, fun h => h, fun φ h => by cases h⟩)
  have k8 : Kept H7 (upd H7 p (.ins CP dx (putF "tellings" (.int 0) [("own", .int own), ("near", .ref nl), ("shelf", .ref sh), ("marked", .ref mk)]))) := .upd h7p (fun h => h)
  have h8p : upd H7 p (.ins CP dx (putF "tellings" (.int 0) [("own", .int own), ("near", .ref nl), ("shelf", .ref sh), ("marked", .ref mk)])) p = some (.ins CP dx [("own", .int own), ("near", .ref nl), ("shelf", .ref sh), ("marked", .ref mk), ("tellings", .int 0)]) := upd_same
  have h8n := f8 _ _ h7n (fun h => npl (List.mem_singleton.mp h).symm)
  have h8m := f8 _ _ h7m (fun h => npmk (List.mem_singleton.mp h).symm)
  dsimp only
  generalize upd H7 p (.ins CP dx (putF "tellings" (.int 0) [("own", .int own), ("near", .ref nl), ("shelf", .ref sh), ("marked", .ref mk)])) = H8 at f8 Sh8 k8 h8p h8n h8m ⊢
  -- spoken
  refine fun sd hsd => ⟨_, rfl, p, CP, dx, _, rfl, by rw [upd_ne (ne_of_none h8p hsd)]; exact h8p, T.clPost, T.a_spoken, (by show 5 < 1000; decide), ?_⟩
  have e9 := Ex.new (o := .dK []) hsd
  have h9s : upd H8 sd (.dK []) sd = some (.dK []) := upd_same
  have nsdl : sd ≠ dl := fun e => by rw [e] at hsd; rw [Sh8.dk] at hsd; cases hsd
  have nsmk : mk ≠ sd := ne_of_none h8m hsd
  generalize upd H8 sd (.dK []) = H9 at e9 h9s ⊢
  have h9p := e9 _ _ h8p
  have Sh9 := Sh8.ex e9
  have h9n := e9 _ _ h8n
  have h9m := e9 _ _ h8m
  have fA : Fz [p] H9 (upd H9 p (.ins CP dx (putF "spoken" (.ref sd) [("own", .int own), ("near", .ref nl), ("shelf", .ref sh), ("marked", .ref mk), ("tellings", .int 0)]))) := .upd (List.mem_singleton.mpr rfl)
  have ShA := Sh9.fz fA (fun z hz => by rw [List.mem_singleton.mp hz]; exact ⟨npsh, nshp, _, h9p, fun h => h, fun φ h => by cases h⟩)
  have kA : Kept H9 (upd H9 p (.ins CP dx (putF "spoken" (.ref sd) [("own", .int own), ("near", .ref nl), ("shelf", .ref sh), ("marked", .ref mk), ("tellings", .int 0)]))) := .upd h9p (fun h => h)
  have hAp : upd H9 p (.ins CP dx (putF "spoken" (.ref sd) [("own", .int own), ("near", .ref nl), ("shelf", .ref sh), ("marked", .ref mk), ("tellings", .int 0)])) p = some (.ins CP dx (poF own ⟨p, sh, dl, dm, nl, mk, sd⟩)) := upd_same
  have npsd : p ≠ sd := fun e => by rw [e, h9s] at h9p; cases h9p
  have hAn := fA _ _ h9n (fun h => npl (List.mem_singleton.mp h).symm)
  have hAm := fA _ _ h9m (fun h => npmk (List.mem_singleton.mp h).symm)
  have hAs := fA _ _ h9s (fun h => npsd (List.mem_singleton.mp h).symm)
  dsimp only
  generalize upd H9 p (.ins CP dx (putF "spoken" (.ref sd) [("own", .int own), ("near", .ref nl), ("shelf", .ref sh), ("marked", .ref mk), ("tellings", .int 0)])) = HA at fA ShA kA hAp hAn hAm hAs ⊢
  have f0A : Fz [p] H HA := f05.trans ((Fz.of e6).trans (f7.trans (f8.trans ((Fz.of e9).trans fA))))
  have k0A : Kept H HA := k05.trans ((Kept.of e6).trans (k7.trans (k8.trans ((Kept.of e9).trans kA))))
  have hsd0 : ∀ {b o}, H b = some o → b ≠ p → b ≠ sd := fun {b o} hb hne e => by
    have h := (f05.trans ((Fz.of e6).trans (f7.trans f8))) _ _ hb (fun h => hne (List.mem_singleton.mp h))
    rw [e, hsd] at h; cases h
  have sqA : SqL K HA a (near.map V.int) := k0A.sl sq
  have ksd : Kept HA (del HA sd) := fun b o hb hh => by rw [del_ne (fun e => by subst e; rw [hAs] at hb; cases hb; exact hh)]; exact hb
  refine s_forLn (ev_var rfl) sqA (fun i σ' H' => (∃ o, σ' = [some (.ref p), some (.int own), some (.ref a), o]) ∧ Ex (del HA sd) H' ∧ ∃ kk, H' sd = some (.dK kk) ∧ kk.length ≤ i ∧ ∀ m ∈ near.take i, ∃ b, valV kk (.inl m) = some (.ref b) ∧ H' b = some (.lst []))
    (fun H1 e1 => ⟨⟨_, rfl⟩, ex_del.trans e1, [], e1 _ _ hAs, Nat.le_refl _, fun m hm => by simp at hm⟩) (fun i σ' H' _ p => ex_l p.2.1 (ksd.sl sqA)) (fun i x σ' H' hi p => ?_) fun σ' H' p => ?_
  · obtain ⟨⟨o, rfl⟩, ex, kk, hk, hl, hv⟩ := p
    rw [List.getElem?_map] at hi
    obtain ⟨m, hm, rfl⟩ := Option.map_eq_some_iff.mp hi
    have hlen : i < near.length := (List.getElem?_eq_some_iff.mp hm).1
    have hp2 := ex _ _ (by rw [del_ne npsd]; exact hAp : del HA sd p = _)
    refine ⟨by show 0 ≤ sizeLine; decide, fun b hb => ⟨_, rfl, p, CP, dx, _, .ref sd, rfl, by rw [upd_ne (ne_of_none hp2 hb)]; exact hp2, T.clPost, T.a_spoken, rfl, _, rfl, sd, _, rfl, DPut.k (k := .inl m) (by rw [upd_ne (ne_of_none hk hb)]; exact hk) (sz_lt (by have := nb.2.2; omega)), ?_⟩⟩
    have nbs : b ≠ sd := fun e => by rw [e, hk] at hb; cases hb
    refine ⟨⟨_, rfl⟩, Ex.mut (ex.trans (Ex.new hb)) del_same, _, upd_same, by have := length_putK kk (.inl m) (V.ref b); omega, fun k hk2 => ?_⟩
    by_cases e : k = m
    · subst e
      exact ⟨b, by rw [valV_put, if_pos rfl], by rw [upd_ne nbs, upd_same]⟩
    · rw [take_of hm] at hk2
      rcases List.mem_append.mp hk2 with h | h
      · obtain ⟨c, h1, h2⟩ := hv k h
        refine ⟨c, by rw [valV_put, if_neg (fun h => e (Sum.inl.inj h))]; exact h1, ?_⟩
        rw [upd_ne (fun e => by subst e; rw [hk] at h2; cases h2), upd_ne (ne_of_none h2 hb)]
        exact h2
      · exact absurd (List.mem_singleton.mp h) e
  · obtain ⟨⟨o, rfl⟩, ex, kk, hk, hl, hv⟩ := p
    rw [show near.take (near.map V.int).length = near from by rw [List.length_map, List.take_length]] at hv
    rw [List.length_map] at hl
    have fz : Fz [sd] HA H' := fun b o hb hn => ex _ _ (by rw [del_ne (fun e => hn (List.mem_singleton.mpr e))]; exact hb)
    have nss : sd ≠ sh := fun e => by
      obtain ⟨d, h⟩ := ShA.ins
      rw [← e, hAs] at h; cases h
    refine q H' ⟨p, sh, dl, dm, nl, mk, sd⟩ rfl ⟨⟨dx, own, fz _ _ hAp (fun h => npsd (List.mem_singleton.mp h))⟩, fz _ _ hAn (fun h => by have e : nl = sd := List.mem_singleton.mp h; rw [e, hAs] at hAn; cases hAn), ⟨[], ShA.fz fz fun z hz => ?_⟩, fz _ _ hAm (fun h => nsmk (List.mem_singleton.mp h)), ⟨kk, hk, by have := nb.2.2; omega, fun m hm => ?_⟩, fun m hm => ⟨fun u hu => (by cases hu), List.nodup_nil, Nat.zero_le _⟩, ⟨nmk, nsdl, nsmk⟩, nb, Nat.zero_le _⟩ ?_
    · rw [List.mem_singleton.mp hz]
      exact ⟨nsdl, nss, _, hAs, fun h => h, fun φ h => by cases h⟩
    · obtain ⟨b, h1, h2⟩ := hv m hm
      exact ⟨b, h1, [], sq_of h2, .nil⟩
    · intro b o hb hn
      have hne : b ≠ p := fun e => hn (List.mem_singleton.mpr e)
      exact fz _ _ (f0A _ _ hb hn) (fun h => hsd0 hb hne (List.mem_singleton.mp h))
/-- what an operation leaves -/
def Res (P : Program) (w : World) (K : PySem.W.Frag) (CS CP : Addr) (H H' : Hp) (A : PAd) (near : List Int) (kvm : List (Key × V)) (ents : Ents) (sp : Int → List Wish) (n : Nat) : Prop :=
  PoAt P w K CS CP H' A near kvm ents sp n ∧ Stl near ents sp ∧ (∀ m ∈ near, (sp m).length ≤ n) ∧ Fr (Sps A) H H'
def spCome (P : Program) (w : World) (K : PySem.W.Frag) (CS CP : Addr) : Sp := fun vs H Q _ => ∃ A near kvm ents sp n x, vs = [.ref (PAd.p A), .str x] ∧ PoAt P w K CS CP H A near kvm ents sp n ∧ NameOk x ∧ valV kvm (.inr x) = none ∧ kvm.length < 1000 ∧
  ∀ v H' d, PoAt P w K CS CP H' A near (putK kvm (.inr x) (.ref d)) ents sp n → PrA K H' v [] → Fr (Sps A) H H' → Q v H'
theorem ok_Post_come (T : Txt K mg CS CP) (c_is_name : Cal P w K mg base "is_name" 1 ["thing"] (spR rName)) (F : FnP K "come" "Post.come" s_Post_come f fd) : FnOk P w K mg base CX0 2 f fd ["self", "hand"] (spCome P w K CS CP) := by
  refine F.ok sc_Post_come (fun vs H Q E h => ?_) (fun cdv A outer s H vs Q E hr h => ?_)
  · obtain ⟨A, near, kvm, ents, sp, n, x, rfl, _⟩ := h; rfl
  have hu := hu_of hr
  refine ⟨_, PSs.nox (pss_cons (ps_if (pt_not (pt_val (pe_c c_is_name hr (by decide) rfl (pa_cons (pv 1) pa_nil)))) pss_never pss_nil)
      (pss_cons (ps_if (pt_cmp (pc_din hu (pv 1) (pe_fld (pv 0) rfl))) pss_never pss_nil)
      (pss_cons (ps_dput hu (pe_fld (pv 0) rfl) (pv 1) pe_dnewK rfl)
      (pss_one (ps_ret (pe_tup (pa_cons (pe_lst pa_nil) (pa_cons (pe_lst pa_nil) pa_nil)))))))), ?_⟩
  obtain ⟨A, near, kvm, ents, sp, n, x, rfl, S, hx, hv, hl, q⟩ := h
  obtain ⟨dx, own, hp⟩ := S.ins
  refine q_when (b := false) (et_not (et_B (ev_c1 (z := .bl true) (ea_cons (ev_var rfl) ea_nil) fun H1 e1 => ⟨x, rfl, hx, rfl⟩))) (fun h => by cases h) fun _ H1 e1 => ?_
  refine q_when (b := false) (et_is (et_B (ev_din (ev_var rfl) (ev_fld (ev_var rfl) (e1 _ _ hp) T.clPost T.a_marked rfl) (DGet.k (k := .inr x) (e1 _ _ S.mk')))) (by rw [hv]; rfl)) (fun h => by cases h) fun _ H2 e2 => ?_
  have e12 := e1.trans e2
  refine fun d hd => ?_
  have e3 := e12.trans (Ex.new (o := .dK []) hd)
  have S3 := S.ex e3
  obtain ⟨dx3, own3, hp3⟩ := S3.ins
  obtain ⟨ksp, hk, hkl, hkv⟩ := S3.sdk
  obtain ⟨n1, n2, n3⟩ := S.ne
  refine ⟨_, rfl, A.p, CP, dx3, _, .ref A.mk', rfl, hp3, T.clPost, T.a_marked, rfl, _, rfl, A.mk', _, rfl, DPut.k (k := .inr x) S3.mk' (sz_lt (by omega)), ?_⟩
  have fz : Fz [A.mk', A.sd] (upd H2 d (.dK [])) (upd (upd H2 d (.dK [])) A.mk' (.dK (putK kvm (.inr x) (.ref d)))) := .upd (by simp)
  have kp : Kept (upd H2 d (.dK [])) (upd (upd H2 d (.dK [])) A.mk' (.dK (putK kvm (.inr x) (.ref d)))) := .upd S3.mk' not_hard_dK
  have S4 := S3.re fz upd_same (by have := length_putK kvm (.inr x) (V.ref d); omega) ⟨ksp, by rw [upd_ne (Ne.symm n3)]; exact hk, hkl, fun m hm => let ⟨a, h1, h2⟩ := hkv m hm; ⟨a, h1, Kept.la kp h2⟩⟩ S.spk
  have f4 : Fr (Sps A) H (upd (upd H2 d (.dK [])) A.mk' (.dK (putK kvm (.inr x) (.ref d)))) := (Fr.of e3).trans (.upd (by simp [Sps]))
  dsimp only
  generalize upd (upd H2 d (.dK [])) A.mk' (.dK (putK kvm (.inr x) (.ref d))) = H4 at S4 f4 ⊢
  refine ⟨by show 0 ≤ sizeLine; decide, fun l1 hl1 => ⟨by show 0 ≤ sizeLine; decide, fun l2 hl2 => ⟨by show 2 ≤ sizeLine; decide, fun t ht => ?_⟩⟩⟩
  have e5 := ((Ex.new (o := .lst []) hl1).trans (Ex.new (o := .lst []) hl2)).trans (Ex.new (o := .tup [.ref l1, .ref l2]) ht)
  have n12 : l1 ≠ l2 := ne_of_none (o := .lst []) upd_same hl2
  have n1t : l1 ≠ t := ne_of_none (o := .lst []) (by rw [upd_ne n12, upd_same]) ht
  have n2t : l2 ≠ t := ne_of_none (o := .lst []) upd_same ht
  exact q _ _ d (S4.ex e5) ⟨t, _, l2, rfl, upd_same, ⟨l1, [], rfl, by rw [upd_ne n1t, upd_ne n12, upd_same], .nil⟩, by rw [upd_ne n2t, upd_same]⟩ (f4.trans (.of e5))
end
end K33
/-! K16: put_on, take_off, go, want, unwant, hear. -/
namespace K33
open PySem PySem.Spec PyProof.Rows L2 Evl TL
section
variable {P : Program} {w : World} {K : PySem.W.Frag} {CS CP : Addr} {H H' : Hp} {A : PAd} {near : List Int} {kvm : List (Key × V)} {ents ents' : Ents} {many' : NE} {sp : Int → List Wish} {n n' : Nat}
theorem PoAt.mono (S : PoAt P w K CS CP H A near kvm ents sp n) (h : n ≤ n') : PoAt P w K CS CP H A near kvm ents sp n' :=
  ⟨S.ins, S.nr, let ⟨m, s⟩ := S.sha; ⟨m, s.mono h⟩, S.mk', S.sdk, S.spk, S.ne, S.nb, S.kb⟩
theorem Res.mono (R : Res P w K CS CP H H' A near kvm ents sp n) (h : n ≤ n') : Res P w K CS CP H H' A near kvm ents sp n' :=
  ⟨R.1.mono h, R.2.1, fun m hm => Nat.le_trans (R.2.2.1 m hm) h, R.2.2.2⟩
theorem Res.ex {H2 : Hp} (R : Res P w K CS CP H H' A near kvm ents sp n) (e : Ex H' H2) : Res P w K CS CP H H2 A near kvm ents sp n := ⟨R.1.ex e, R.2.1, R.2.2.1, R.2.2.2.trans (.of e)⟩
theorem Res.pre {H0 : Hp} (R : Res P w K CS CP H H' A near kvm ents sp n) (f : Fr (Sps A) H0 H) : Res P w K CS CP H0 H' A near kvm ents sp n := ⟨R.1, R.2.1, R.2.2.1, f.trans R.2.2.2⟩
/-- the post behind a change of its shelf -/
theorem PoAt.shelf (S : PoAt P w K CS CP H A near kvm ents sp n) (Sh : ShAt P w K CS H' A.sh A.dl A.dm ents' many' n') (f : Fr [A.dl] H H') : PoAt P w K CS CP H' A near kvm ents' sp n' := by
  obtain ⟨dx, o, hp⟩ := S.ins
  obtain ⟨many, Sh0⟩ := S.sha
  obtain ⟨ksp, hk, hkl, hkv⟩ := S.sdk
  obtain ⟨n1, n2, n3⟩ := S.ne
  obtain ⟨a1, a2, a3⟩ := S.apart
  have k : Kept H H' := f.kept fun b hb => by rw [List.mem_singleton.mp hb]; exact ⟨_, Sh0.dk, not_hard_dK⟩
  have nd : ∀ {z}, z ≠ A.dl → z ∉ [A.dl] := fun h m => h (List.mem_singleton.mp m)
  refine ⟨⟨dx, o, f _ _ hp (fun m => a1 (by rw [List.mem_singleton.mp m]; simp [Sps])) (fun φ h => by cases h)⟩, k _ _ S.nr trivial, ⟨many', Sh⟩, f _ _ S.mk' (nd n1) (fun φ h => by cases h), ⟨ksp, f _ _ hk (nd n2) (fun φ h => by cases h), hkl, fun m hm => let ⟨a, h1, h2⟩ := hkv m hm; ⟨a, h1, Kept.la k h2⟩⟩, S.spk, S.ne, S.nb, S.kb⟩
theorem PoAt.kept (S : PoAt P w K CS CP H A near kvm ents sp n) (f : Fr (Sps A) H H') : Kept H H' := by
  obtain ⟨many, Sh0⟩ := S.sha
  obtain ⟨ksp, hk, hkl, hkv⟩ := S.sdk
  refine f.kept fun b hb => ?_
  simp only [Sps, List.mem_cons, List.not_mem_nil, or_false] at hb
  rcases hb with h | h | h
  · subst h; exact ⟨_, Sh0.dk, not_hard_dK⟩
  · subst h; exact ⟨_, S.mk', not_hard_dK⟩
  · subst h; exact ⟨_, hk, not_hard_dK⟩
/-! ### a test by a list made on the way -/
def EvW (K : PySem.W.Frag) (te : TE) (σ : L2.St) (H : Hp) (ws : List Wish) : Prop := ∀ H1, Ex H H1 → ∀ Q : VK, (∀ p us H2, H1 p = none → Ex H1 H2 → LN K H2 p us → us.Perm ws → us.length ≤ 1000 → Q (.ref p) H2) → te σ H1 Q
theorem ev_inL {ta te : TE} {σ : L2.St} {x : V} {wi : Wish} {ws : List Wish} (ha : Ev ta σ H x) (wa : WA K H x wi) (ok : WOk wi) (oks : AllOk ws) (h : EvW K te σ H ws) : Ev (tOp (rInD K) ta te) σ H (.bl (decide (wi ∈ ws))) := fun H1 e Q q =>
  ha H1 e _ fun H2 e2 => h H2 (e.trans e2) _ fun p us H3 hp e3 ln pm _ => ⟨wD wi, us.map wD, wa.ex ((e.trans e2).trans e3), ln.la.dp, wD_shaped ok, lD_shaped (fun u hu => oks u (pm.mem_iff.mp hu)), by
    rw [any_eqv, show decide (wi ∈ us) = decide (wi ∈ ws) from decide_eq_decide.mpr pm.mem_iff]; exact q H3 (e2.trans e3)⟩
theorem ev_ninL {ta te : TE} {σ : L2.St} {x : V} {wi : Wish} {ws : List Wish} (ha : Ev ta σ H x) (wa : WA K H x wi) (ok : WOk wi) (oks : AllOk ws) (h : EvW K te σ H ws) : Ev (tOp (rNotInD K) ta te) σ H (.bl (!decide (wi ∈ ws))) := fun H1 e Q q =>
  ha H1 e _ fun H2 e2 => h H2 (e.trans e2) _ fun p us H3 hp e3 ln pm _ => ⟨wD wi, us.map wD, wa.ex ((e.trans e2).trans e3), ln.la.dp, wD_shaped ok, lD_shaped (fun u hu => oks u (pm.mem_iff.mp hu)), by
    rw [any_eqv, show decide (wi ∈ us) = decide (wi ∈ ws) from decide_eq_decide.mpr pm.mem_iff]; exact q H3 (e2.trans e3)⟩
end
section
variable {P : Program} {w : World} {K : PySem.W.Frag} {mg : Str → Option Value} {base : Heap} {CS CP f : Addr} {fd : FuncData}
/-- self.shelf.wishes(hand) -/
theorem evw_wishes (T : Txt K mg CS CP) {H : Hp} {A : PAd} {near : List Int} {kvm : List (Key × V)} {ents : Ents} {sp : Int → List Wish} {n : Nat} {x : Str} {σ : L2.St} (S : PoAt P w K CS CP H A near kvm ents sp n) (hn : n ≤ 1000) (hx : HolderOk x) (h0 : σ[0]? = some (some (.ref A.p))) (h1 : σ[1]? = some (some (.str x))) :
    EvW K (tMeth CS "wishes" (spShWishes P w K CS) [] E0 (tFld K (tVar 0) "shelf") (tCons (tVar 1) tNil)) σ H (hold ents x) := fun H1 e Q q => by
  have S1 := S.ex e
  obtain ⟨dx, own, hp⟩ := S1.ins
  obtain ⟨many, Sh⟩ := S1.sha
  obtain ⟨dx2, hs⟩ := Sh.ins
  exact ⟨_, h0, A.p, CP, dx, _, .ref A.sh, rfl, hp, T.clPost, T.a_shelf, rfl, A.sh, dx2, _, rfl, hs, rfl, _, h1, A.sh, A.dl, A.dm, ents, many, n, x, rfl, Sh, hn, hx, fun p us H2 h1 h2 h3 h4 h5 => q p us H2 h1 h2 h3 h4 (by omega)⟩
def spPutOn (P : Program) (w : World) (K : PySem.W.Frag) (CS CP : Addr) : Sp := fun vs H Q _ => ∃ A near kvm ents sp n x a wi, vs = [.ref (PAd.p A), .str x, .ref a] ∧ PoAt P w K CS CP H A near kvm ents sp n ∧ n < 40 ∧ (∀ m ∈ near, (sp m).length ≤ 40) ∧ HolderOk x ∧ LA K H a [wi] ∧ WOk wi ∧ wi ∉ hold ents x ∧
  ∀ v H' ents' sp', Res P w K CS CP H H' A near kvm ents' sp' (n + 1) → (∀ u, u ∈ hold ents' x ↔ u ∈ hold ents x ∨ u = wi) → (∀ h, h ≠ x → hold ents' h = hold ents h) → LtA K H' v (lets near sp sp') → Q v H'
theorem news_tail (T : Txt K mg CS CP) {H H' : Hp} {A : PAd} {near : List Int} {kvm : List (Key × V)} {ents ents' : Ents} {sp : Int → List Wish} {n n' : Nat} {many' : NE} {x1 x2 : Option V} {D : Ends} (S : PoAt P w K CS CP H A near kvm ents sp n) (Sh : ShAt P w K CS H' A.sh A.dl A.dm ents' many' n') (f : Fr [A.dl] H H') (hn : n' ≤ 40) (hsp : ∀ m ∈ near, (sp m).length ≤ 40)
    (q : ∀ v H2 sp', Res P w K CS CP H H2 A near kvm ents' sp' n' → LtA K H2 v (lets near sp sp') → D.rt v H2) : tRet (tMeth CP "news_of_wishes" (spNews P w K CS CP) [] E0 (tVar 0) (tCons (tFld K (tVar 0) "near") tNil)) D [some (.ref A.p), x1, x2] H' := by
  have S1 := S.shelf Sh f
  obtain ⟨dx, own, hp⟩ := S1.ins
  exact ⟨_, rfl, A.p, dx, _, rfl, hp, rfl, _, rfl, A.p, CP, dx, _, .ref A.nl, rfl, hp, T.clPost, T.a_near, rfl, A, near, kvm, ents', sp, n', rfl, S1, hn, hsp, fun v H2 sp' S2 st ll lt fz => q v H2 sp' ⟨S2, st, ll, (f.mono (fun b hb => by rw [List.mem_singleton.mp hb]; simp [Sps])).trans (fz.mono (fun b hb => by simp only [Sps, List.mem_cons, List.not_mem_nil, or_false] at hb ⊢; exact .inr hb)).fr⟩ lt⟩
theorem ok_Post_put_on (T : Txt K mg CS CP) (c_Shelf_put : MCal P w K mg base CS "put" 6 ["self", "holder", "wishes"] (spPut P w K CS) []) (c_Post_news_of_wishes : MCal P w K mg base CP "news_of_wishes" 6 ["self", "near"] (spNews P w K CS CP) [])
    (F : FnP K "put_on" "Post.put_on" s_Post_put_on f fd) : FnOk P w K mg base CX0 7 f fd ["self", "holder", "wishes"] (spPutOn P w K CS CP) := by
  refine F.ok sc_Post_put_on (fun vs H Q E h => ?_) (fun cdv A outer s H vs Q E hr h => ?_)
  · obtain ⟨A, near, kvm, ents, sp, n, x, a, wi, rfl, _⟩ := h; rfl
  refine ⟨_, PSs.nox (pss_cons (ps_expr (pe_m c_Shelf_put (pe_fld (pv 0) rfl) T.clShelf hr (by decide) (pa_cons (pv 1) (pa_cons (pv 2) pa_nil))))
      (pss_one (ps_ret (pe_m c_Post_news_of_wishes (pv 0) T.clPost hr (by decide) (pa_cons (pe_fld (pv 0) rfl) pa_nil))))), ?_⟩
  obtain ⟨A, near, kvm, ents, sp, n, x, a, wi, rfl, S, hn, hsp, hx, la, ok, nw, q⟩ := h
  obtain ⟨dx, own, hp⟩ := S.ins
  obtain ⟨many, Sh⟩ := S.sha
  obtain ⟨dx2, hs⟩ := Sh.ins
  refine ⟨_, rfl, A.p, CP, dx, _, .ref A.sh, rfl, hp, T.clPost, T.a_shelf, rfl, A.sh, dx2, _, rfl, hs, rfl, _, rfl, _, rfl, A.sh, A.dl, A.dm, ents, many, n, x, a, wi, rfl, Sh, by omega, hx, la, ok, nw, fun v H1 ents' many' Sh1 h1 h2 f => ?_⟩
  exact news_tail T S Sh1 f (by omega) hsp fun v2 H2 sp' R lt => q v2 H2 ents' sp' R h1 h2 lt
def spTakeOff (P : Program) (w : World) (K : PySem.W.Frag) (CS CP : Addr) : Sp := fun vs H Q _ => ∃ A near kvm ents sp n x a ws, vs = [.ref (PAd.p A), .str x, .ref a] ∧ PoAt P w K CS CP H A near kvm ents sp n ∧ n < 40 ∧ (∀ m ∈ near, (sp m).length ≤ 40) ∧ HolderOk x ∧ LA K H a ws ∧ AllOk ws ∧ ws.Nodup ∧ ws.length ≤ 1000 ∧ (∀ u ∈ ws, u ∈ hold ents x) ∧
  ∀ v H' ents' sp', Res P w K CS CP H H' A near kvm ents' sp' (n + 1) → (∀ u, u ∈ hold ents' x ↔ u ∈ hold ents x ∧ u ∉ ws) → (∀ h, h ≠ x → hold ents' h = hold ents h) → LtA K H' v (lets near sp sp') → Q v H'
theorem ok_Post_take_off (T : Txt K mg CS CP) (c_Shelf_take : MCal P w K mg base CS "take" 6 ["self", "holder", "wishes"] (spTake P w K CS) []) (c_Post_news_of_wishes : MCal P w K mg base CP "news_of_wishes" 6 ["self", "near"] (spNews P w K CS CP) [])
    (F : FnP K "take_off" "Post.take_off" s_Post_take_off f fd) : FnOk P w K mg base CX0 7 f fd ["self", "holder", "wishes"] (spTakeOff P w K CS CP) := by
  refine F.ok sc_Post_take_off (fun vs H Q E h => ?_) (fun cdv A outer s H vs Q E hr h => ?_)
  · obtain ⟨A, near, kvm, ents, sp, n, x, a, wi, rfl, _⟩ := h; rfl
  refine ⟨_, PSs.nox (pss_cons (ps_expr (pe_m c_Shelf_take (pe_fld (pv 0) rfl) T.clShelf hr (by decide) (pa_cons (pv 1) (pa_cons (pv 2) pa_nil))))
      (pss_one (ps_ret (pe_m c_Post_news_of_wishes (pv 0) T.clPost hr (by decide) (pa_cons (pe_fld (pv 0) rfl) pa_nil))))), ?_⟩
  obtain ⟨A, near, kvm, ents, sp, n, x, a, ws, rfl, S, hn, hsp, hx, la, ok, nd, hz, sub, q⟩ := h
  obtain ⟨dx, own, hp⟩ := S.ins
  obtain ⟨many, Sh⟩ := S.sha
  obtain ⟨dx2, hs⟩ := Sh.ins
  refine ⟨_, rfl, A.p, CP, dx, _, .ref A.sh, rfl, hp, T.clPost, T.a_shelf, rfl, A.sh, dx2, _, rfl, hs, rfl, _, rfl, _, rfl, A.sh, A.dl, A.dm, ents, many, n, x, a, ws, rfl, Sh, by omega, hx, la, ok, nd, by omega, sub, fun v H1 ents' many' Sh1 h1 h2 f => ?_⟩
  exact news_tail T S Sh1 f (by omega) hsp fun v2 H2 sp' R lt => q v2 H2 ents' sp' (R.mono (by omega)) h1 h2 lt
theorem single_dp {H : Hp} {v : V} {wi : Wish} {l : Addr} (wa : WA K H v wi) (h : H l = some (.lst [v])) : LA K H l [wi] := ⟨[v], sq_of h, .cons wa .nil⟩
/-- (letters, []) -/
theorem pair_ret {H H' : Hp} {v : V} {ls : List Let} {Q : VK} (lt : LtA K H v ls) (q : ∀ t H2, Ex H H2 → PrA K H2 (.ref t) ls → Q (.ref t) H2) : 0 ≤ sizeLine ∧ ∀ g, H g = none → [v, V.ref g].length ≤ sizeLine ∧ ∀ t, upd H g (.lst []) t = none → Q (.ref t) (upd (upd H g (.lst [])) t (.tup [v, .ref g])) :=
  ⟨Nat.zero_le _, fun g hg => ⟨by show 2 ≤ sizeLine; decide, fun t ht => by
    have e := (Ex.new (o := .lst []) hg).trans (Ex.new (o := .tup [v, .ref g]) ht)
    refine q t _ e ⟨t, v, g, rfl, upd_same, lt.ex e, ?_⟩
    rw [upd_ne (ne_of_none (o := .lst []) upd_same ht), upd_same]⟩⟩
def spWant (P : Program) (w : World) (K : PySem.W.Frag) (CS CP : Addr) : Sp := fun vs H Q _ => ∃ A near kvm ents sp n x v wi v0, vs = [.ref (PAd.p A), .str x, v] ∧ PoAt P w K CS CP H A near kvm ents sp n ∧ n < 40 ∧ (∀ m ∈ near, (sp m).length ≤ 40) ∧ NameOk x ∧ valV kvm (.inr x) = some v0 ∧ WA K H v wi ∧ WOk wi ∧ wi ∉ hold ents x ∧
  ∀ v H' ents' sp', Res P w K CS CP H H' A near kvm ents' sp' (n + 1) → (∀ u, u ∈ hold ents' x ↔ u ∈ hold ents x ∨ u = wi) → (∀ h, h ≠ x → hold ents' h = hold ents h) → PrA K H' v (lets near sp sp') → Q v H'
theorem ok_Post_want (T : Txt K mg CS CP) (c_is_wish : Cal P w K mg base "is_wish" 3 ["thing"] (spR (rWish K))) (c_Post_need_staying : MCal P w K mg base CP "need_staying" 3 ["self", "hand"] (spR (rNeedHand K CP)) []) (c_Shelf_wishes : MCal P w K mg base CS "wishes" 5 ["self", "holder"] (spShWishes P w K CS) [])
    (c_Post_put_on : MCal P w K mg base CP "put_on" 7 ["self", "holder", "wishes"] (spPutOn P w K CS CP) []) (F : FnP K "want" "Post.want" s_Post_want f fd) : FnOk P w K mg base CX0 8 f fd ["self", "hand", "wish"] (spWant P w K CS CP) := by
  refine F.ok sc_Post_want (fun vs H Q E h => ?_) (fun cdv A outer s H vs Q E hr h => ?_)
  · obtain ⟨A, near, kvm, ents, sp, n, x, v, wi, v0, rfl, _⟩ := h; rfl
  have hu65 := u65 hr
  refine ⟨_, PSs.nox (pss_cons (ps_expr (pe_m c_Post_need_staying (pv 0) T.clPost hr (by decide) (pa_cons (pv 1) pa_nil)))
      (pss_cons (ps_if (pt_not (pt_val (pe_c c_is_wish hr (by decide) rfl (pa_cons (pv 2) pa_nil)))) pss_never pss_nil)
      (pss_cons (ps_if (pt_cmpR (r := rInD K) (op_inD hu65) (pv 2) (pe_m c_Shelf_wishes (pe_fld (pv 0) rfl) T.clShelf hr (by decide) (pa_cons (pv 1) pa_nil)) (by rfl)) pss_never pss_nil)
      (pss_one (ps_ret (pe_tup (pa_cons (pe_m c_Post_put_on (pv 0) T.clPost hr (by decide) (pa_cons (pv 1) (pa_cons (pe_lst (pa_cons (pv 2) pa_nil)) pa_nil))) (pa_cons (pe_lst pa_nil) pa_nil)))))))), ?_⟩
  obtain ⟨A, near, kvm, ents, sp, n, x, v, wi, v0, rfl, S, hn, hsp, hx, hv, wa, ok, nw, q⟩ := h
  obtain ⟨dx, own, hp⟩ := S.ins
  refine ⟨_, rfl, A.p, dx, _, rfl, hp, rfl, _, rfl, .non, ⟨A.p, x, A, own, dx, kvm, v0, rfl, hx, hp, S.mk', hv, rfl⟩, fun H1 e1 => ?_⟩
  dsimp only
  refine q_when (b := false) (et_not (et_B (ev_c1 (z := .bl true) (ea_cons (ev_var rfl) ea_nil) fun H2 e2 => ⟨v, wi, rfl, wa.ex (e1.trans e2), ok, rfl⟩))) (fun h => by cases h) fun _ H2 e2 => ?_
  have e12 := e1.trans e2
  have hok : AllOk (hold ents x) := let ⟨m, s⟩ := S.sha; s.hok x
  refine q_when (b := decide (wi ∈ hold ents x)) (et_test (ev_inL (ev_var rfl) (wa.ex e12) ok hok (evw_wishes T (S.ex e12) (by omega) hx.holder rfl rfl))) (fun h => absurd (of_decide_eq_true h) nw) fun _ H3 e3 => ?_
  have e13 := e12.trans e3
  have S3 := S.ex e13
  obtain ⟨dx3, own3, hp3⟩ := S3.ins
  refine ⟨_, rfl, A.p, dx3, _, rfl, hp3, rfl, _, rfl, _, rfl, by show 1 ≤ sizeLine; decide, fun l hl => ?_⟩
  have e4 := e13.trans (Ex.new (o := .lst [v]) hl)
  refine ⟨A, near, kvm, ents, sp, n, x, l, wi, rfl, S.ex e4, hn, hsp, hx.holder, single_dp (wa.ex e4) upd_same, ok, nw, fun v2 H5 ents' sp' R h1 h2 lt => ?_⟩
  exact pair_ret (H' := H5) lt fun t H6 e6 pr => q _ H6 ents' sp' ((R.pre (.of e4)).ex e6) h1 h2 pr
def spUnwant (P : Program) (w : World) (K : PySem.W.Frag) (CS CP : Addr) : Sp := fun vs H Q _ => ∃ A near kvm ents sp n x v wi v0, vs = [.ref (PAd.p A), .str x, v] ∧ PoAt P w K CS CP H A near kvm ents sp n ∧ n < 40 ∧ (∀ m ∈ near, (sp m).length ≤ 40) ∧ NameOk x ∧ valV kvm (.inr x) = some v0 ∧ WA K H v wi ∧ WOk wi ∧ wi ∈ hold ents x ∧
  ∀ v H' ents' sp', Res P w K CS CP H H' A near kvm ents' sp' (n + 1) → (∀ u, u ∈ hold ents' x ↔ u ∈ hold ents x ∧ u ∉ [wi]) → (∀ h, h ≠ x → hold ents' h = hold ents h) → PrA K H' v (lets near sp sp') → Q v H'
theorem ok_Post_unwant (T : Txt K mg CS CP) (c_is_wish : Cal P w K mg base "is_wish" 3 ["thing"] (spR (rWish K))) (c_Post_need_staying : MCal P w K mg base CP "need_staying" 3 ["self", "hand"] (spR (rNeedHand K CP)) []) (c_Shelf_wishes : MCal P w K mg base CS "wishes" 5 ["self", "holder"] (spShWishes P w K CS) [])
    (c_Post_take_off : MCal P w K mg base CP "take_off" 7 ["self", "holder", "wishes"] (spTakeOff P w K CS CP) []) (F : FnP K "unwant" "Post.unwant" s_Post_unwant f fd) : FnOk P w K mg base CX0 8 f fd ["self", "hand", "wish"]
    (spUnwant P w K CS CP) := by
  refine F.ok sc_Post_unwant (fun vs H Q E h => ?_) (fun cdv A outer s H vs Q E hr h => ?_)
  · obtain ⟨A, near, kvm, ents, sp, n, x, v, wi, v0, rfl, _⟩ := h; rfl
  have hu65 := u65 hr
  refine ⟨_, PSs.nox (pss_cons (ps_expr (pe_m c_Post_need_staying (pv 0) T.clPost hr (by decide) (pa_cons (pv 1) pa_nil)))
      (pss_cons (ps_if (PW.pt (pw_or (pt_not (pt_val (pe_c c_is_wish hr (by decide) rfl (pa_cons (pv 2) pa_nil)))) (pw_or1 (pt_cmpR (r := rNotInD K) (op_notInD hu65) (pv 2) (pe_m c_Shelf_wishes (pe_fld (pv 0) rfl) T.clShelf hr (by decide) (pa_cons (pv 1) pa_nil)) (by rfl))))) pss_never pss_nil)
      (pss_one (ps_ret (pe_tup (pa_cons (pe_m c_Post_take_off (pv 0) T.clPost hr (by decide) (pa_cons (pv 1) (pa_cons (pe_lst (pa_cons (pv 2) pa_nil)) pa_nil))) (pa_cons (pe_lst pa_nil) pa_nil))))))), ?_⟩
  obtain ⟨A, near, kvm, ents, sp, n, x, v, wi, v0, rfl, S, hn, hsp, hx, hv, wa, ok, nw, q⟩ := h
  obtain ⟨dx, own, hp⟩ := S.ins
  refine ⟨_, rfl, A.p, dx, _, rfl, hp, rfl, _, rfl, .non, ⟨A.p, x, A, own, dx, kvm, v0, rfl, hx, hp, S.mk', hv, rfl⟩, fun H1 e1 => ?_⟩
  dsimp only
  have hok : AllOk (hold ents x) := let ⟨m, s⟩ := S.sha; s.hok x
  refine q_when (b := false) (et_is (et_or (et_not (et_B (ev_c1 (z := .bl true) (ea_cons (ev_var rfl) ea_nil) fun H2 e2 => ⟨v, wi, rfl, wa.ex (e1.trans e2), ok, rfl⟩))) fun _ => et_test (ev_ninL (ev_var rfl) (wa.ex e1) ok hok (evw_wishes T (S.ex e1) (by omega) hx.holder rfl rfl))) (by rw [decide_eq_true nw]; rfl)) (fun h => by cases h) fun _ H3 e3 => ?_
  have e13 := e1.trans e3
  have S3 := S.ex e13
  obtain ⟨dx3, own3, hp3⟩ := S3.ins
  refine ⟨_, rfl, A.p, dx3, _, rfl, hp3, rfl, _, rfl, _, rfl, by show 1 ≤ sizeLine; decide, fun l hl => ?_⟩
  have e4 := e13.trans (Ex.new (o := .lst [v]) hl)
  refine ⟨A, near, kvm, ents, sp, n, x, l, [wi], rfl, S.ex e4, hn, hsp, hx.holder, single_dp (wa.ex e4) upd_same, (fun u hu => by rw [List.mem_singleton.mp hu]; exact ok), by simp, by simp, (fun u hu => by rw [List.mem_singleton.mp hu]; exact nw), fun v2 H5 ents' sp' R h1 h2 lt => ?_⟩
  exact pair_ret (H' := H5) lt fun t H6 e6 pr => q _ H6 ents' sp' ((R.pre (.of e4)).ex e6) h1 h2 pr
def spGo (P : Program) (w : World) (K : PySem.W.Frag) (CS CP : Addr) : Sp := fun vs H Q _ => ∃ A near kvm ents sp n x v0, vs = [.ref (PAd.p A), .str x] ∧ PoAt P w K CS CP H A near kvm ents sp n ∧ n < 40 ∧ (∀ m ∈ near, (sp m).length ≤ 40) ∧ NameOk x ∧ valV kvm (.inr x) = some v0 ∧
  ∀ v H' ents' sp', Res P w K CS CP H H' A near (dropK kvm (.inr x)) ents' sp' (n + 1) → (∀ u, u ∉ hold ents' x) → (∀ h, h ≠ x → hold ents' h = hold ents h) → PrA K H' v (lets near sp sp') → Q v H'
theorem ok_Post_go (T : Txt K mg CS CP) (c_Post_need_staying : MCal P w K mg base CP "need_staying" 3 ["self", "hand"] (spR (rNeedHand K CP)) []) (c_Shelf_wishes : MCal P w K mg base CS "wishes" 5 ["self", "holder"] (spShWishes P w K CS) [])
    (c_Post_take_off : MCal P w K mg base CP "take_off" 7 ["self", "holder", "wishes"] (spTakeOff P w K CS CP) []) (F : FnP K "go" "Post.go" s_Post_go f fd) : FnOk P w K mg base CX0 8 f fd ["self", "hand"] (spGo P w K CS CP) := by
  refine F.ok sc_Post_go (fun vs H Q E h => ?_) (fun cdv A outer s H vs Q E hr h => ?_)
  · obtain ⟨A, near, kvm, ents, sp, n, x, v0, rfl, _⟩ := h; rfl
  refine ⟨_, PSs.nox (pss_cons (ps_expr (pe_m c_Post_need_staying (pv 0) T.clPost hr (by decide) (pa_cons (pv 1) pa_nil)))
      (pss_cons (ps_set (i := 2) sc_Post_go.nd rfl (Or.inl rfl) (pe_m c_Post_take_off (pv 0) T.clPost hr (by decide) (pa_cons (pv 1) (pa_cons (pe_m c_Shelf_wishes (pe_fld (pv 0) rfl) T.clShelf hr (by decide) (pa_cons (pv 1) pa_nil)) pa_nil))))
      (pss_cons (ps_expr (pe_dpop1 (pe_fld (pv 0) rfl) (pv 1) ⟨rfl, rfl, rfl, rfl⟩))
      (pss_one (ps_ret (pe_tup (pa_cons (pv 2) (pa_cons (pe_lst pa_nil) pa_nil)))))))), ?_⟩
  obtain ⟨A, near, kvm, ents, sp, n, x, v0, rfl, S, hn, hsp, hx, hv, q⟩ := h
  obtain ⟨dx, own, hp⟩ := S.ins
  refine ⟨_, rfl, A.p, dx, _, rfl, hp, rfl, _, rfl, .non, ⟨A.p, x, A, own, dx, kvm, v0, rfl, hx, hp, S.mk', hv, rfl⟩, fun H1 e1 => ?_⟩
  have S1 := S.ex e1
  obtain ⟨dx1, own1, hp1⟩ := S1.ins
  have hnd : (hold ents x).Nodup := let ⟨m, s⟩ := S.sha; s.hnd x
  have hok : AllOk (hold ents x) := let ⟨m, s⟩ := S.sha; s.hok x
  refine ⟨_, rfl, A.p, dx1, _, rfl, hp1, rfl, _, rfl, evw_wishes (σ := [some (.ref A.p), some (.str x), none]) T S1 (by omega) hx.holder rfl rfl H1 (Ex.refl _) _ fun p us H2 hp2 e2 ln pm hl => ?_⟩
  have S2 := S1.ex e2
  refine ⟨A, near, kvm, ents, sp, n, x, p, us, rfl, S2, hn, hsp, hx.holder, ln.la, fun u hu => hok u (pm.mem_iff.mp hu), pm.nodup_iff.mpr hnd, hl, fun u hu => pm.mem_iff.mp hu, fun v H3 ents' sp' R h1 h2 lt => ?_⟩
  obtain ⟨S3, st, ll, fr⟩ := R
  obtain ⟨dx3, own3, hp3⟩ := S3.ins
  refine ⟨_, rfl, A.p, CP, dx3, _, .ref A.mk', rfl, hp3, T.clPost, T.a_marked, rfl, A.mk', rfl, .inl ⟨_, .inl S3.mk'⟩, _, rfl, kvm, .inr x, v0, S3.mk', rfl, hv, ?_⟩
  obtain ⟨ksp, hk, hkl, hkv⟩ := S3.sdk
  obtain ⟨n1, n2, n3⟩ := S3.ne
  have kp : Kept H3 (upd H3 A.mk' (.dK (dropK kvm (.inr x)))) := .upd S3.mk' not_hard_dK
  have S4 := S3.re (f := (.upd (by simp) : Fz [A.mk', A.sd] H3 (upd H3 A.mk' (.dK (dropK kvm (.inr x)))))) upd_same (by have := dropK_le kvm (.inr x); have := S.kb; omega) ⟨ksp, by rw [upd_ne (Ne.symm n3)]; exact hk, hkl, fun m hm => let ⟨a, h1, h2⟩ := hkv m hm; ⟨a, h1, Kept.la kp h2⟩⟩ S3.spk
  have R4 : Res P w K CS CP H (upd H3 A.mk' (.dK (dropK kvm (.inr x)))) A near (dropK kvm (.inr x)) ents' sp' (n + 1) := ⟨S4, st, ll, (Fr.of (e1.trans e2)).trans (fr.trans (.upd (by simp [Sps])))⟩
  refine ⟨_, rfl, ?_⟩
  exact pair_ret (H' := H3) (lt.kept kp) fun t H6 e6 pr => q _ H6 ents' sp' (R4.ex e6) (fun u hu => ((h1 u).mp hu).2 (pm.mem_iff.mpr ((h1 u).mp hu).1)) h2 pr
end
end K33
/-! K17: hear; the law's pile. -/
namespace K33
open PySem PySem.Spec PyProof.Rows L2 Evl TL
section
variable {P : Program} {w : World} {K : PySem.W.Frag} {mg : Str → Option Value} {base : Heap} {CS CP f : Addr} {fd : FuncData}
theorem evw_known (T : Txt K mg CS CP) {H : Hp} {A : PAd} {near : List Int} {kvm : List (Key × V)} {ents : Ents} {sp : Int → List Wish} {n : Nat} {m : Int} {σ : L2.St} (S : PoAt P w K CS CP H A near kvm ents sp n) (hn : n ≤ 1000) (hm : m ∈ near) (h0 : σ[0]? = some (some (.ref A.p))) (h1 : σ[1]? = some (some (.int m))) :
    EvW K (tMeth CP "known" (spKnown P w K CS CP) [] E0 (tVar 0) (tCons (tVar 1) tNil)) σ H (hold ents (nS m)) := fun H1 e Q q => by
  have S1 := S.ex e
  obtain ⟨dx, own, hp⟩ := S1.ins
  exact ⟨_, h0, A.p, dx, _, rfl, hp, rfl, _, h1, A, near, kvm, ents, sp, n, m, rfl, S1, hn, hm, fun p us H2 h1 h2 h3 h4 h5 => q p us H2 h1 h2 h3 h4 (by omega)⟩
def spHear (P : Program) (w : World) (K : PySem.W.Frag) (CS CP : Addr) : Sp := fun vs H Q _ => ∃ A near kvm ents sp n m lt un x wi, vs = [.ref (PAd.p A), .int m, .ref lt] ∧ PoAt P w K CS CP H A near kvm ents sp n ∧ n < 40 ∧ (∀ m ∈ near, (sp m).length ≤ 40) ∧ m ∈ near ∧ SqT K H lt [.str (kindS un), x] ∧ WA K H x wi ∧ WOk wi ∧ (wi ∈ hold ents (nS m) ↔ un = true) ∧
  ∀ v H' ents' sp', Res P w K CS CP H H' A near kvm ents' sp' (n + 1) → (∀ u, u ∈ hold ents' (nS m) ↔ if un = true then u ∈ hold ents (nS m) ∧ u ≠ wi else u ∈ hold ents (nS m) ∨ u = wi) → (∀ h, h ≠ nS m → hold ents' h = hold ents h) → PrA K H' v (lets near sp sp') → Q v H'
theorem ok_Post_hear (T : Txt K mg CS CP) (c_is_letter : Cal P w K mg base "is_letter" 4 ["thing"] (spR (rLetter K))) (c_Post_need_near : MCal P w K mg base CP "need_near" 2 ["self", "neighbour"] (spR (rNeedNear K CP)) []) (c_Post_known : MCal P w K mg base CP "known" 6 ["self", "neighbour"] (spKnown P w K CS CP) [])
    (c_Post_put_on : MCal P w K mg base CP "put_on" 7 ["self", "holder", "wishes"] (spPutOn P w K CS CP) []) (c_Post_take_off : MCal P w K mg base CP "take_off" 7 ["self", "holder", "wishes"] (spTakeOff P w K CS CP) []) (F : FnP K "hear" "Post.hear" s_Post_hear f fd) :
    FnOk P w K mg base CX0 8 f fd ["self", "neighbour", "letter"] (spHear P w K CS CP) := by
  refine F.ok sc_Post_hear (fun vs H Q E h => ?_) (fun cdv A outer s H vs Q E hr h => ?_)
  · obtain ⟨A, near, kvm, ents, sp, n, m, lt, un, x, wi, rfl, _⟩ := h; rfl
  have hu65 := u65 hr
  refine ⟨_, PSs.nox (pss_cons (ps_expr (pe_m c_Post_need_near (pv 0) T.clPost hr (by decide) (pa_cons (pv 1) pa_nil)))
      (pss_cons (ps_if (pt_not (pt_val (pe_c c_is_letter hr (by decide) rfl (pa_cons (pv 2) pa_nil)))) pss_never pss_nil)
      (pss_cons (ps_if (pt_cmpR op_eq (pe_ix (r := rIxT K) ix_tup (pv 2) pe_int (fun _ _ => rfl)) pe_str (nomark _)) pss_never pss_nil)
      (pss_cons (ps_if (PW.pt (pw_and (pt_cmpR op_ne (pe_ix (r := rIxT K) ix_tup (pv 2) pe_int (fun _ _ => rfl)) pe_str (nomark _)) (pw_and1 (pt_cmpR op_ne (pe_ix (r := rIxT K) ix_tup (pv 2) pe_int (fun _ _ => rfl)) pe_str (nomark _))))) pss_never pss_nil)
      (pss_cons (ps_if (pt_cmpR op_eq (pe_cmpR (r := rInD K) (op_inD hu65) (pe_ix (r := rIxT K) ix_tup (pv 2) pe_int (fun _ _ => rfl)) (pe_m c_Post_known (pv 0) T.clPost hr (by decide) (pa_cons (pv 1) pa_nil)) (by rfl)) (pe_cmpR op_eq (pe_ix (r := rIxT K) ix_tup (pv 2) pe_int (fun _ _ => rfl)) pe_str (nomark _)) (nomark _)) pss_never pss_nil)
      (pss_cons (ps_if (pt_cmpR op_eq (pe_ix (r := rIxT K) ix_tup (pv 2) pe_int (fun _ _ => rfl)) pe_str (nomark _)) (pss_one (ps_ret (pe_tup (pa_cons (pe_m c_Post_put_on (pv 0) T.clPost hr (by decide) (pa_cons (pe_callTy call_str_int (by rfl) T.n_str bt_str (pa_cons (pv 1) pa_nil)) (pa_cons (pe_lst (pa_cons (pe_ix (r := rIxT K) ix_tup (pv 2) pe_int (fun _ _ => rfl)) pa_nil)) pa_nil))) (pa_cons (pe_lst pa_nil) pa_nil))))) pss_nil)
      (pss_one (ps_ret (pe_tup (pa_cons (pe_m c_Post_take_off (pv 0) T.clPost hr (by decide) (pa_cons (pe_callTy call_str_int (by rfl) T.n_str bt_str (pa_cons (pv 1) pa_nil)) (pa_cons (pe_lst (pa_cons (pe_ix (r := rIxT K) ix_tup (pv 2) pe_int (fun _ _ => rfl)) pa_nil)) pa_nil))) (pa_cons (pe_lst pa_nil) pa_nil))))))))))), ?_⟩
  obtain ⟨A, near, kvm, ents, sp, n, m, lt, un, x, wi, rfl, S, hn, hsp, hm, sq, wa, ok, hw, q⟩ := h
  obtain ⟨dx, own, hp⟩ := S.ins
  have b := S.nb.2.1 m hm
  refine ⟨_, rfl, A.p, dx, _, rfl, hp, rfl, _, rfl, .non, ⟨A.p, m, A, own, dx, near, rfl, b.1, hm, hp, S.nr, rfl⟩, fun H1 e1 => ?_⟩
  dsimp only
  have i0 : ∀ {H5 : Hp} (_ : Ex H H5), Ev (tOp (rIxT K) (tVar 2) (tC (.int 0))) [some (.ref A.p), some (.int m), some (.ref lt)] H5 (.str (kindS un)) := fun e5 => ev_op (ev_var rfl) ev_c (rv_ixT (ex_t e5 sq) rfl)
  have i1 : ∀ {H5 : Hp} (_ : Ex H H5), Ev (tOp (rIxT K) (tVar 2) (tC (.int 1))) [some (.ref A.p), some (.int m), some (.ref lt)] H5 x := fun e5 => ev_op (ev_var rfl) ev_c (rv_ixT (ex_t e5 sq) rfl)
  refine q_when (b := false) (et_not (et_B (ev_c1 (z := .bl true) (ea_cons (ev_var rfl) ea_nil) fun H2 e2 => ⟨lt, kindS un, x, wi, rfl, ex_t (e1.trans e2) sq, by cases un <;> simp [kindS], wa.ex (e1.trans e2), ok, rfl⟩))) (fun h => by cases h) fun _ H2 e2 => ?_
  have e12 := e1.trans e2
  refine q_when (b := false) (et_is (et_test (ev_op (i0 e12) ev_c (rv_eq rfl))) (by cases un <;> rfl)) (fun h => by cases h) fun _ H3 e3 => ?_
  have e13 := e12.trans e3
  refine q_when (b := false) (et_is (et_and (et_test (ev_op (i0 e13) ev_c (rv_ne rfl))) fun _ => et_test (ev_op (i0 e13) ev_c (rv_ne rfl))) (by cases un <;> rfl)) (fun h => by cases h) fun _ H4 e4 => ?_
  have e14 := e13.trans e4
  have hok : AllOk (hold ents (nS m)) := let ⟨k, s⟩ := S.sha; s.hok _
  have hb : decide (wi ∈ hold ents (nS m)) = un := by
    cases un with
    | true => exact decide_eq_true (hw.mpr rfl)
    | false => exact decide_eq_false fun h => by have := hw.mp h; cases this
  refine q_when (b := false) (et_is (et_test (ev_op (ev_inL (i1 e14) (wa.ex e14) ok hok (evw_known T (S.ex e14) (by omega) hm rfl rfl)) (ev_op (i0 e14) ev_c (rv_eq rfl)) (rv_eq rfl))) (by rw [hb]; cases un <;> rfl)) (fun h => by cases h) fun _ H5 e5 => ?_
  have e15 := e14.trans e5
  refine q_when (b := !un) (et_is (et_test (ev_op (i0 e15) ev_c (rv_eq rfl))) (by cases un <;> rfl)) (fun hun H6 e6 => ?_) fun hun H6 e6 => ?_
  · have e16 := e15.trans e6
    have S6 := S.ex e16
    obtain ⟨dx6, own6, hp6⟩ := S6.ins
    refine ⟨_, rfl, A.p, dx6, _, rfl, hp6, rfl, _, rfl, m, rfl, lg_small b, _, rfl, lt, _, 1, x, rfl, rfl, ex_t e16 sq, rfl, by show 1 ≤ sizeLine; decide, fun l hl => ?_⟩
    have e7 := e16.trans (Ex.new (o := .lst [x]) hl)
    have nw : wi ∉ hold ents (nS m) := fun h => by have := hw.mp h; rw [this] at hun; cases hun
    refine ⟨A, near, kvm, ents, sp, n, nS m, l, wi, rfl, S.ex e7, hn, hsp, nS_holder b.1 b.2, single_dp (wa.ex e7) upd_same, ok, nw, fun v2 H8 ents' sp' R h1 h2 lt' => ?_⟩
    exact pair_ret (H' := H8) lt' fun t H9 e9 pr => q _ H9 ents' sp' ((R.pre (.of e7)).ex e9) (fun u => by rw [h1 u, if_neg (fun h => by rw [h] at hun; cases hun)]) h2 pr
  · have e16 := e15.trans e6
    have S6 := S.ex e16
    obtain ⟨dx6, own6, hp6⟩ := S6.ins
    refine ⟨_, rfl, A.p, dx6, _, rfl, hp6, rfl, _, rfl, m, rfl, lg_small b, _, rfl, lt, _, 1, x, rfl, rfl, ex_t e16 sq, rfl, by show 1 ≤ sizeLine; decide, fun l hl => ?_⟩
    have e7 := e16.trans (Ex.new (o := .lst [x]) hl)
    have hun2 : un = true := by cases un with | true => rfl | false => cases hun
    have iw : wi ∈ hold ents (nS m) := hw.mpr hun2
    refine ⟨A, near, kvm, ents, sp, n, nS m, l, [wi], rfl, S.ex e7, hn, hsp, nS_holder b.1 b.2, single_dp (wa.ex e7) upd_same, (fun u hu => by rw [List.mem_singleton.mp hu]; exact ok), by simp, by simp, (fun u hu => by rw [List.mem_singleton.mp hu]; exact iw), fun v2 H8 ents' sp' R h1 h2 lt' => ?_⟩
    exact pair_ret (H' := H8) lt' fun t H9 e9 pr => q _ H9 ents' sp' ((R.pre (.of e7)).ex e9) (fun u => by rw [h1 u, if_pos hun2]; simp) h2 pr
end
end K33
/-! K18: the law's pile. -/
namespace K33
open PySem PySem.Spec PyProof.Rows L2 Evl TL
/-- the pile of numbers -/
def PlAt (K : PySem.W.Frag) (H : Hp) (pl cl : Addr) : Prop := ∃ (ns : List Int) (n1 n2 n3 : Int), H pl = some (.lst [.ref cl, .int n1, .int n2, .int n3]) ∧ H cl = some (.lst (ns.map V.int)) ∧ cl ≠ pl ∧ 0 ≤ n1 ∧ 0 ≤ n3 ∧ n3 < 4294967296
theorem sq_upd {K : PySem.W.Frag} {H : Hp} {p a : Addr} {o : HO} {xs : List V} (h : SqL K H a xs) (ne : a ≠ p) : SqL K (upd H p o) a xs := by
  rcases h with (h | ⟨z, h⟩) | h
  · exact .inl (.inl (by rw [upd_ne ne]; exact h))
  · exact .inl (.inr ⟨z, by rw [upd_ne ne]; exact h⟩)
  · exact .inr h
/-- tuples and other things, but for the pile -/
theorem fz_st {K : PySem.W.Frag} {H H' : Hp} {pl : Addr} {zs : List V} (h : H pl = some (.lst zs)) (f : Fz [pl] H H') {a : Addr} {xs : List V} (s : SqT K H a xs) : SqT K H' a xs := by
  rcases s with (s | ⟨o, s⟩) | s
  · exact .inl (.inl (f _ _ s (fun m => by rw [List.mem_singleton.mp m, h] at s; cases s)))
  · exact .inl (.inr ⟨o, f _ _ s (fun m => by rw [List.mem_singleton.mp m, h] at s; cases s)⟩)
  · exact .inr s
theorem Fz.mut {S : List Addr} {H H' : Hp} {p : Addr} {o : HO} (f : Fz S H H') (h : H p = none) : Fz S H (L2.upd H' p o) := fun b u hb n => by rw [L2.upd_ne (ne_of_none hb h)]; exact f b u hb n
section
variable {P : Program} {w : World} {K : PySem.W.Frag} {mg : Str → Option Value} {base : Heap} {CS CP f : Addr} {fd : FuncData}
def spTk (K : PySem.W.Frag) : Sp := fun vs H Q _ => ∃ pl cl many, vs = [.ref pl, .int many] ∧ PlAt K H pl cl ∧ 0 < many ∧ many < 1000000 ∧ ∀ r H', 0 ≤ r → r < many → PlAt K H' pl cl → Fz [pl] H H' → Q (.int r) H'
theorem ok_law_pile (T : Txt K mg CS CP) (F : FnP K "_law_pile" "_law_pile" s_law_pile f fd) : FnOk P w K mg base CX0 1 f fd ["script"]
    (fun vs H Q _ => ∃ (a : Addr) (ns : List Int), vs = [.ref a] ∧ SqL K H a (ns.map V.int) ∧ ∀ p cl H', Ex H H' → PlAt K H' p cl → H p = none → Q (.ref p) H') := by
  refine F.ok sc_law_pile (fun vs H Q E h => ?_) (fun cdv A outer s H vs Q E hr h => ?_)
  · obtain ⟨a, ns, rfl, _⟩ := h; rfl
  refine ⟨_, PSs.nox (pss_one (ps_ret (pe_lst (pa_cons (pe_callTy call_list_of (by rfl) T.n_list bt_list (pa_cons (pv 0) pa_nil)) (pa_cons pe_int (pa_cons pe_int (pa_cons pe_int pa_nil))))))), ?_⟩
  obtain ⟨a, ns, rfl, sq, q⟩ := h
  refine ⟨_, rfl, a, _, rfl, .inl sq, fun l hl => ⟨by show 4 ≤ sizeLine; decide, fun p hp => ?_⟩⟩
  have n : l ≠ p := ne_of_none (o := .lst (ns.map V.int)) upd_same hp
  exact q p l _ ((Ex.new hl).trans (Ex.new hp)) ⟨ns, 0, 0, 161803, upd_same, by rw [upd_ne n, upd_same], n, by omega, by omega, by omega⟩ (fresh_back (Ex.new hl) hp)
theorem ok_law_take (T : Txt K mg CS CP) (F : FnP K "_law_take" "_law_take" s_law_take f fd) : FnOk P w K mg base CX0 1 f fd ["pile", "many"] (spTk K) := by
  refine F.ok sc_law_take (fun vs H Q E h => ?_) (fun cdv A outer s H vs Q E hr h => ?_)
  · obtain ⟨a, cl, ns, rfl, _⟩ := h; rfl
  refine ⟨_, PSs.nox (pss_cons (ps_if (pt_cmpR op_gt (pe_ix (r := rIxL K) ix_list (pv 0) pe_int (fun _ _ => rfl)) pe_int (nomark _)) (pss_cons (ps_set (i := 2) sc_law_take.nd rfl (Or.inl rfl) (pe_op op_mod (pe_ix (r := rIxL K) ix_list (pv 0) pe_int (fun _ _ => rfl)) (pv 1)))
      (pss_cons (ps_asg (pe_op op_fdiv (pe_ix (r := rIxL K) ix_list (pv 0) pe_int (fun _ _ => rfl)) (pv 1)) (pg_sub (pv 0) pe_int set_list))
      (pss_one (ps_ret (pv 2))))) pss_nil)
      (pss_cons (ps_set (i := 3) sc_law_take.nd rfl (Or.inl rfl) pe_int)
      (pss_cons (ps_if (pt_cmpR op_lt (pe_ix (r := rIxL K) ix_list (pv 0) pe_int (fun _ _ => rfl)) (pe_callB call_len_seq (by rfl) T.n_len bt_len (pa_cons (pe_ix (r := rIxL K) ix_list (pv 0) pe_int (fun _ _ => rfl)) pa_nil)) (nomark _)) (pss_one (ps_set (i := 3) sc_law_take.nd rfl (Or.inl rfl) (pe_ix (r := rIxL K) ix_list (pe_ix (r := rIxL K) ix_list (pv 0) pe_int (fun _ _ => rfl)) (pe_ix (r := rIxL K) ix_list (pv 0) pe_int (fun _ _ => rfl)) (fun _ _ => rfl)))) pss_nil)
      (pss_cons (ps_asg (pe_op op_add (pe_ix (r := rIxL K) ix_list (pv 0) pe_int (fun _ _ => rfl)) pe_int) (pg_sub (pv 0) pe_int set_list))
      (pss_cons (ps_if (pt_cmpR op_ge (pv 3) (pe_op op_pow pe_int pe_int) (nomark _)) (pss_cons (ps_asg (pe_op op_fdiv (pe_op op_sub (pv 3) (pe_op op_pow pe_int pe_int)) (pv 1)) (pg_sub (pv 0) pe_int set_list))
      (pss_one (ps_ret (pe_op op_mod (pe_op op_sub (pv 3) (pe_op op_pow pe_int pe_int)) (pv 1))))) pss_nil)
      (pss_cons (ps_set (i := 4) sc_law_take.nd rfl (Or.inl rfl) (pe_op op_mod (pe_op op_mul (pe_op op_add (pe_ix (r := rIxL K) ix_list (pv 0) pe_int (fun _ _ => rfl)) (pe_op op_mod (pv 3) pe_int)) (pe_op op_add (pe_op op_mul pe_int (pe_ix (r := rIxL K) ix_list (pv 0) pe_int (fun _ _ => rfl))) pe_int)) pe_int))
      (pss_cons (ps_asg (pe_op op_mod (pe_op op_add (pe_op op_mul (pv 4) (pv 4)) (pe_op op_mul pe_int (pe_ix (r := rIxL K) ix_list (pv 0) pe_int (fun _ _ => rfl)))) pe_int) (pg_sub (pv 0) pe_int set_list))
      (pss_one (ps_ret (pe_op op_mod (pe_op op_fdiv (pe_ix (r := rIxL K) ix_list (pv 0) pe_int (fun _ _ => rfl)) pe_int) (pv 1))))))))))), ?_⟩
  obtain ⟨pl, cl, many, rfl, ⟨ns, n1, n2, n3, hp, sc, ncl, b1, b3, b3'⟩, m0, m1, q⟩ := h
  have ix : ∀ {H1 : Hp} {σ : L2.St} {l : List V} {i : Int} {v : V}, H1 pl = some (.lst l) → σ[0]? = some (some (.ref pl)) → atI l i = some v → Ev (tOp (rIxL K) (tVar 0) (tC (.int i))) σ H1 v := fun h hs ha => ev_op (ev_var hs) ev_c (rv_ixL (sq_of h) ha)
  refine q_when (et_test (ev_op (ix hp rfl rfl) ev_c rv_I0)) (fun hb H1 e1 => ?_) (fun hb H1 e1 => ?_)
  · have h1 := e1 _ _ hp
    refine q_asg (ev_op (ix h1 rfl rfl) (ev_var rfl) (rv_I m0)) fun H2 e2 => ?_
    have h2 := e2 _ _ h1
    refine q_setL (j := 2) h2 (ev_op (ix h2 rfl rfl) (ev_var rfl) (rv_I ⟨m0, by omega⟩)) (ev_var rfl) ev_c (by show 2 < 4; decide) fun H3 e3 => ?_
    have e13 := (e1.trans e2).trans e3
    refine s_ret (ev_var rfl) fun H4 e4 => ?_
    refine q _ H4 (Int.emod_nonneg _ (by omega)) (Int.emod_lt_of_pos _ m0) ⟨ns, n1, _, n3, e4 _ _ upd_same, e4 _ _ (by rw [upd_ne ncl]; exact e13 _ _ sc), ncl, b1, b3, b3'⟩ ?_
    exact (Fz.of e13).trans ((Fz.upd (List.mem_singleton.mpr rfl)).trans (.of e4))
  · refine q_asg ev_c fun H2 e2 => ?_
    have e12 := e1.trans e2
    have h2 := e12 _ _ hp
    refine q_ifAsg (b := decide (n1 < ((ns.map V.int).length : Nat))) (v := .int (if n1 < ((ns.map V.int).length : Nat) then ns.getD n1.toNat 0 else 0)) (et_test (ev_op (ix h2 rfl rfl) (ev_len (ix h2 rfl rfl) (sq_of (e12 _ _ sc))) rv_I0)) (fun hb2 => ?_) (fun hb2 => ?_) fun H3 e3 => ?_
    · have lt := of_decide_eq_true hb2
      rw [if_pos lt]
      have lt2 : n1.toNat < ns.length := by rw [List.length_map] at lt; omega
      refine ev_op (ix h2 rfl rfl) (ix h2 rfl rfl) (rv_ixL (sq_of (e12 _ _ sc)) ?_)
      have e : n1 = ((n1.toNat : Nat) : Int) := by omega
      unfold atI
      rw [e, ixN_nat (by rw [List.length_map]; exact lt2)]
      show (ns.map V.int)[n1.toNat]? = _
      rw [List.getElem?_map, List.getElem?_eq_getElem lt2, List.getD_eq_getElem?_getD, Int.toNat_natCast, List.getElem?_eq_getElem lt2]
      rfl
    · rw [if_neg (of_decide_eq_false hb2)]; rfl
    · generalize (if n1 < ((ns.map V.int).length : Nat) then ns.getD n1.toNat 0 else 0) = c
      have e13 := e12.trans e3
      have h3 := e13 _ _ hp
      refine q_setL (j := 1) h3 (ev_op (ix h3 rfl rfl) ev_c rv_I0) (ev_var rfl) ev_c (by show 1 < 4; decide) fun H4 e4 => ?_
      have e14 := e13.trans e4
      have f5 : Fz [pl] H (upd H4 pl (.lst [.ref cl, .int (n1 + 1), .int n2, .int n3])) := (Fz.of e14).trans (.upd (List.mem_singleton.mpr rfl))
      have h5 : upd H4 pl (.lst [.ref cl, .int (n1 + 1), .int n2, .int n3]) pl = some (.lst [.ref cl, .int (n1 + 1), .int n2, .int n3]) := upd_same
      have c5 : upd H4 pl (.lst [.ref cl, .int (n1 + 1), .int n2, .int n3]) cl = some (.lst (ns.map V.int)) := by rw [upd_ne ncl]; exact e14 _ _ sc
      show (tSeq _ _ : TS) _ _ (upd H4 pl (.lst [.ref cl, .int (n1 + 1), .int n2, .int n3]))
      generalize upd H4 pl (.lst [.ref cl, .int (n1 + 1), .int n2, .int n3]) = H5 at f5 h5 c5 ⊢
      have pw : ∀ {H6 : Hp} {σ : L2.St}, Ev (tOp (rI CPow fun i j => .int (i ^ j.toNat)) (tC (.int 10)) (tC (.int 18))) σ H6 (.int (10 ^ 18)) := ev_op ev_c ev_c (rv_I ⟨by decide, by decide, by decide⟩)
      refine q_when (et_test (ev_op (ev_var rfl) pw rv_I0)) (fun hb3 H6 e6 => ?_) (fun hb3 H6 e6 => ?_)
      · have h6 := e6 _ _ h5
        refine q_setL (j := 2) h6 (ev_op (ev_op (ev_var rfl) pw rv_I0) (ev_var rfl) (rv_I ⟨m0, by omega⟩)) (ev_var rfl) ev_c (by show 2 < 4; decide) fun H7 e7 => ?_
        refine s_ret (ev_op (ev_op (ev_var rfl) pw rv_I0) (ev_var rfl) (rv_I m0)) fun H8 e8 => ?_
        refine q _ H8 (Int.emod_nonneg _ (by omega)) (Int.emod_lt_of_pos _ m0) ⟨ns, n1 + 1, _, n3, e8 _ _ upd_same, e8 _ _ (by rw [upd_ne ncl]; exact e7 _ _ (e6 _ _ c5)), ncl, by omega, b3, b3'⟩ ?_
        exact f5.trans ((Fz.of (e6.trans e7)).trans ((Fz.upd (List.mem_singleton.mpr rfl)).trans (.of e8)))
      · have h6 := e6 _ _ h5
        have cm1 : CMul (n3 + c % 2147483587) (2 * (n1 + 1) + 69621) := .inl ⟨by omega, by omega⟩
        refine q_asg (ev_op (ev_op (ev_op (ix h6 rfl rfl) (ev_op (ev_var rfl) ev_c (rv_I (by decide))) rv_I0) (ev_op (ev_op ev_c (ix h6 rfl rfl) (rv_I (.inl ⟨by decide, by decide⟩))) ev_c rv_I0) (rv_I cm1)) ev_c (rv_I (by decide))) fun H7 e7 => ?_
        have h7 := e7 _ _ h6
        have mb1 : 0 ≤ (n3 + c % 2147483587) * (2 * (n1 + 1) + 69621) % 2147483629 := Int.emod_nonneg _ (by decide)
        have mb2 : (n3 + c % 2147483587) * (2 * (n1 + 1) + 69621) % 2147483629 < 2147483629 := Int.emod_lt_of_pos _ (by decide)
        generalize (n3 + c % 2147483587) * (2 * (n1 + 1) + 69621) % 2147483629 = mx at mb1 mb2
        refine q_setL (j := 3) h7 (ev_op (ev_op (ev_op (ev_var rfl) (ev_var rfl) (rv_I (.inl ⟨by omega, by omega⟩))) (ev_op ev_c (ix h7 rfl rfl) (rv_I (.inl ⟨by decide, by decide⟩))) rv_I0) ev_c (rv_I (by decide))) (ev_var rfl) ev_c (by show 3 < 4; decide) fun H8 e8 => ?_
        have nb1 : 0 ≤ (mx * mx + 40692 * (n1 + 1)) % 2147483563 := Int.emod_nonneg _ (by decide)
        have nb2 : (mx * mx + 40692 * (n1 + 1)) % 2147483563 < 2147483563 := Int.emod_lt_of_pos _ (by decide)
        refine s_ret (ev_op (ev_op (ix (l := [.ref cl, .int (n1 + 1), .int n2, .int ((mx * mx + 40692 * (n1 + 1)) % 2147483563)]) upd_same rfl rfl) ev_c (rv_I ⟨by decide, by decide⟩)) (ev_var rfl) (rv_I m0)) fun H9 e9 => ?_
        refine q _ H9 (Int.emod_nonneg _ (by omega)) (Int.emod_lt_of_pos _ m0) ⟨ns, n1 + 1, _, _, e9 _ _ upd_same, e9 _ _ (by rw [upd_ne ncl]; exact e8 _ _ (e7 _ _ (e6 _ _ c5))), ncl, by omega, nb1, by omega⟩ ?_
        exact f5.trans ((Fz.of ((e6.trans e7).trans e8)).trans ((Fz.upd (List.mem_singleton.mpr rfl)).trans (.of e9)))
end
end K33
/-! K19: numbers and neighbours out of the pile. -/
namespace K33
open PySem PySem.Spec PyProof.Rows L2 Evl TL
section
variable {K : PySem.W.Frag} {H H' : Hp} {pl cl : Addr}
theorem PlAt.kept (p : PlAt K H pl cl) (k : Kept H H') : PlAt K H' pl cl := let ⟨ns, n1, n2, n3, h1, h2, r⟩ := p; ⟨ns, n1, n2, n3, k _ _ h1 trivial, k _ _ h2 trivial, r⟩
theorem PlAt.ex (p : PlAt K H pl cl) (e : Ex H H') : PlAt K H' pl cl := p.kept (.of e)
theorem PlAt.lst (p : PlAt K H pl cl) : ∃ zs, H pl = some (.lst zs) := let ⟨ns, n1, n2, n3, h1, _⟩ := p; ⟨_, h1⟩
theorem PlAt.upd {l : Addr} {o : HO} (p : PlAt K H pl cl) (h1 : l ≠ pl) (h2 : l ≠ cl) : PlAt K (L2.upd H l o) pl cl := let ⟨ns, n1, n2, n3, g1, g2, r⟩ := p; ⟨ns, n1, n2, n3, by rw [upd_ne (Ne.symm h1)]; exact g1, by rw [upd_ne (Ne.symm h2)]; exact g2, r⟩
/-- what is new stands apart from the pile -/
theorem PlAt.new {l : Addr} (p : PlAt K H pl cl) (h : H l = none) : l ≠ pl ∧ l ≠ cl := let ⟨ns, n1, n2, n3, g1, g2, r⟩ := p; ⟨Ne.symm (ne_of_none g1 h), Ne.symm (ne_of_none g2 h)⟩
theorem PlAt.cl0 (p : PlAt K H pl cl) : ∃ ns : List Int, H cl = some (.lst (ns.map V.int)) := let ⟨ns, n1, n2, n3, g1, g2, r⟩ := p; ⟨ns, g2⟩
theorem PlAt.ne {a : Addr} {xs : List V} (p : PlAt K H pl cl) (h : H a = some (.lst xs)) (hx : xs.length ≠ 4) : a ≠ pl := fun e => by
  obtain ⟨ns, n1, n2, n3, h1, _⟩ := p
  rw [e, h1] at h
  injection h with h; injection h with h
  subst h
  exact hx rfl
theorem atI_ex {xs : List V} {i : Int} (h0 : 0 ≤ i) (h1 : i < xs.length) : ∃ v, atI xs i = some v ∧ xs[i.toNat]? = some v := by
  have e : i = ((i.toNat : Nat) : Int) := by omega
  have lt : i.toNat < xs.length := by omega
  refine ⟨xs[i.toNat], ?_, List.getElem?_eq_getElem lt⟩
  have h2 : ixN xs.length i = some i.toNat := by
    have := ixN_nat lt
    rw [← e] at this
    exact this
  unfold atI
  rw [h2]
  exact List.getElem?_eq_getElem lt
theorem s_forR1p {σ : L2.St} {D : Ends} {tu : TS} {ta : TA} {j : Nat} {Φ : Int → Hp → Prop} (h : ∀ Q : List V → Hp → Prop, (∀ n H1, Φ n H1 → Q [.int n] H1) → ta σ H Q) (hn : ∀ n H1, Φ n H1 → 0 ≤ n ∧ n ≤ 100000) (Pv : Int → Nat → L2.St → Hp → Prop) (h0 : ∀ n H1, Φ n H1 → Pv n 0 σ H1)
    (hs : ∀ n (i : Nat) σ' H', (i : Int) < n → Pv n i σ' H' → tu { D with nx := Pv n (i + 1), ct := Pv n (i + 1), bk := D.nx } (σ'.set j (some (.int (i : Int)))) H') (hd : ∀ n σ' H', Pv n n.toNat σ' H' → D.nx σ' H') : tFor (iRng1 ta) (gName j) tu D σ H :=
  h _ fun n H1 p => ⟨n, rfl, by have := hn n H1 p; omega, by have := hn n H1 p; omega, for_range (lo := 0) (n := n.toNat) (Pv n) (h0 n H1 p) (fun i σ' H' hi p => by
    have e0 : (0 : Int) + (i : Int) = (i : Int) := Int.zero_add _
    show tu { D with nx := Pv n (i + 1), ct := Pv n (i + 1), bk := D.nx } (σ'.set j (some (.int ((0 : Int) + (i : Int))))) H'
    rw [e0]
    exact hs n i σ' H' (by omega) p) (hd n)⟩
theorem q_forR1p {σ : L2.St} {D : Ends} {tu tz : TS} {ta : TA} {j : Nat} {Φ : Int → Hp → Prop} (h : ∀ Q : List V → Hp → Prop, (∀ n H1, Φ n H1 → Q [.int n] H1) → ta σ H Q) (hn : ∀ n H1, Φ n H1 → 0 ≤ n ∧ n ≤ 100000) (Pv : Int → Nat → L2.St → Hp → Prop) (h0 : ∀ n H1, Φ n H1 → Pv n 0 σ H1)
    (hs : ∀ n (i : Nat) σ' H', (i : Int) < n → Pv n i σ' H' → tu { D with nx := Pv n (i + 1), ct := Pv n (i + 1), bk := tz D } (σ'.set j (some (.int (i : Int)))) H') (hd : ∀ n σ' H', Pv n n.toNat σ' H' → tz D σ' H') : tSeq (tFor (iRng1 ta) (gName j) tu) tz D σ H :=
  s_forR1p (D := { D with nx := tz D }) h hn Pv h0 hs hd
end
section
variable {P : Program} {w : World} {K : PySem.W.Frag} {mg : Str → Option Value} {base : Heap} {CS CP f : Addr} {fd : FuncData}
def spNum (K : PySem.W.Frag) : Sp := fun vs H Q _ => ∃ pl cl, vs = [.ref pl] ∧ PlAt K H pl cl ∧ ∀ r H', PlAt K H' pl cl → Fz [pl] H H' → Q (.int r) H'
theorem ok_law_number (T : Txt K mg CS CP) (c_law_take : Cal P w K mg base "_law_take" 1 ["pile", "many"] (spTk K)) (F : FnP K "_law_number" "_law_number" s_law_number f fd) : FnOk P w K mg base CX0 2 f fd ["pile"] (spNum K) := by
  refine F.ok sc_law_number (fun vs H Q E h => ?_) (fun cdv A outer s H vs Q E hr h => ?_)
  · obtain ⟨a, cl, rfl, _⟩ := h; rfl
  refine ⟨_, PSs.nox (pss_cons (ps_if (pt_cmpR op_eq (pe_c c_law_take hr (by decide) rfl (pa_cons (pv 0) (pa_cons pe_int pa_nil))) pe_int (nomark _)) (pss_cons (ps_set (i := 1) sc_law_number.nd rfl (Or.inl rfl) (pe_op op_mul (pe_c c_law_take hr (by decide) rfl (pa_cons (pv 0) (pa_cons (pe_op op_pow pe_int pe_int) pa_nil))) (pe_op op_pow pe_int pe_int)))
      (pss_cons (ps_set (i := 1) sc_law_number.nd rfl (Or.inl rfl) (pe_op op_add (pe_op op_add (pv 1) (pe_op op_mul (pe_c c_law_take hr (by decide) rfl (pa_cons (pv 0) (pa_cons (pe_op op_pow pe_int pe_int) pa_nil))) (pe_op op_pow pe_int pe_int))) (pe_c c_law_take hr (by decide) rfl (pa_cons (pv 0) (pa_cons (pe_op op_pow pe_int pe_int) pa_nil)))))
      (pss_one (ps_ret (pe_op op_mul (pv 1) (pe_ix (r := rIxL K) ix_list (pe_lst (pa_cons pe_int (pa_cons (pe_un un_neg pe_int) pa_nil))) (pe_c c_law_take hr (by decide) rfl (pa_cons (pv 0) (pa_cons pe_int pa_nil))) (fun _ _ => rfl))))))) pss_nil)
      (pss_one (ps_ret (pe_op op_sub (pe_c c_law_take hr (by decide) rfl (pa_cons (pv 0) (pa_cons pe_int pa_nil))) pe_int)))), ?_⟩
  obtain ⟨pl, cl, rfl, pa, q⟩ := h
  refine ⟨_, rfl, pl, cl, 6, rfl, pa, by decide, by decide, fun r1 H1 r10 r11 p1 f1 => ?_⟩
  refine ⟨rfl, decide (V.int r1 = V.int 0), rfl, ?_⟩
  cases decide (V.int r1 = V.int 0) with
  | true =>
    refine ⟨_, rfl, 10, 4, rfl, rfl, ⟨by decide, by decide, by decide⟩, pl, cl, _, rfl, p1, by decide, by decide, fun r2 H2 r20 r21 p2 f2 => ?_⟩
    refine ⟨10, 10, rfl, rfl, ⟨by decide, by decide, by decide⟩, r2, _, rfl, rfl, .inl ⟨by omega, by have : r2 < 10000 := r21; omega⟩, ?_⟩
    refine ⟨_, rfl, _, rfl, 10, 5, rfl, rfl, ⟨by decide, by decide, by decide⟩, pl, cl, _, rfl, p2, by decide, by decide, fun r3 H3 r30 r31 p3 f3 => ?_⟩
    refine ⟨10, 5, rfl, rfl, ⟨by decide, by decide, by decide⟩, r3, _, rfl, rfl, .inl ⟨by omega, by have : r3 < 100000 := r31; omega⟩, _, _, rfl, rfl, ?_⟩
    refine ⟨_, rfl, 10, 5, rfl, rfl, ⟨by decide, by decide, by decide⟩, pl, cl, _, rfl, p3, by decide, by decide, fun r4 H4 r40 r41 p4 f4 => ?_⟩
    refine ⟨_, _, rfl, rfl, _, rfl, 1, rfl, by show 2 ≤ sizeLine; decide, fun l hl => ?_⟩
    have p5 := p4.ex (Ex.new (o := .lst [.int 1, .int (-1)]) hl)
    refine ⟨_, rfl, pl, cl, 2, rfl, p5, by decide, by decide, fun r6 H6 r60 r61 p6 f6 => ?_⟩
    obtain ⟨zs, hz⟩ := p4.lst
    have nl : l ≠ pl := Ne.symm (ne_of_none hz hl)
    have h6 := f6 _ _ (upd_same : upd H4 l (.lst [.int 1, .int (-1)]) l = _) (fun m => nl (List.mem_singleton.mp m))
    obtain ⟨v, hv, hv2⟩ := atI_ex (xs := [.int 1, .int (-1)]) r60 r61
    have hi : ∃ k : Int, v = .int k ∧ -2 < k ∧ k < 2 := by
      have := List.mem_of_getElem? hv2
      simp only [List.mem_cons, List.not_mem_nil, or_false] at this
      rcases this with h | h
      · exact ⟨1, h, by decide, by decide⟩
      · exact ⟨-1, h, by decide, by decide⟩
    obtain ⟨k, rfl, k1, k2⟩ := hi
    refine ⟨l, _, r6, _, rfl, rfl, sq_of h6, hv, _, k, rfl, rfl, .inr ⟨by omega, by omega⟩, ?_⟩
    exact q _ H6 p6 (f1.trans (f2.trans (f3.trans (f4.trans ((Fz.of (Ex.new hl)).trans f6)))))
  | false =>
    refine ⟨_, rfl, pl, cl, 9, rfl, p1, by decide, by decide, fun r2 H2 r20 r21 p2 f2 => ?_⟩
    exact ⟨_, 4, rfl, rfl, q _ H2 p2 (f1.trans f2)⟩
def NearOk (near : List Int) : Prop := near.Pairwise (· < ·) ∧ (∀ m ∈ near, 0 ≤ m ∧ m < 1000000) ∧ 1 ≤ near.length ∧ near.length ≤ 4
def spNear (K : PySem.W.Frag) : Sp := fun vs H Q _ => ∃ pl cl own, vs = [.ref pl, .int own] ∧ PlAt K H pl cl ∧ 0 ≤ own ∧ own < 30 ∧ ∀ p near H', H p = none → PlAt K H' pl cl → Fz [pl] H H' → H' p = some (.lst (near.map V.int)) → NearOk near → Q (.ref p) H'
theorem ok_law_near (T : Txt K mg CS CP) (c_law_take : Cal P w K mg base "_law_take" 1 ["pile", "many"] (spTk K)) (F : FnP K "_law_near" "_law_near" s_law_near f fd) : FnOk P w K mg base CX0 2 f fd ["pile", "own"] (spNear K) := by
  refine F.ok sc_law_near (fun vs H Q E h => ?_) (fun cdv A outer s H vs Q E hr h => ?_)
  · obtain ⟨a, cl, own, rfl, _⟩ := h; rfl
  refine ⟨_, PSs.nox (pss_cons (ps_set (i := 2) sc_law_near.nd rfl (Or.inl rfl) (pe_lst pa_nil))
      (pss_cons (ps_for PassesOwn.never rfl (pi_range1 rfl T.n_range (pa_cons (pe_op op_add pe_int (pe_c c_law_take hr (by decide) rfl (pa_cons (pv 0) (pa_cons pe_int pa_nil)))) pa_nil)) (pg_name (i := 3) sc_law_near.nd rfl (Or.inl rfl)) (pss_cons (ps_set (i := 4) sc_law_near.nd rfl (Or.inl rfl) (pe_op op_add (pe_op op_add (pe_op op_mul pe_int (pv 3)) pe_int) (pe_c c_law_take hr (by decide) rfl (pa_cons (pv 0) (pa_cons pe_int pa_nil)))))
      (pss_one (ps_expr (pe_bm PySem.F.plainAttrs_list PySem.F.slot_list_append PySem.F.type_list_append mt_append (pv 2) (pa_cons (pe_op op_add (pv 1) (pe_op op_mul (pv 4) (pe_ix (r := rIxL K) ix_list (pe_lst (pa_cons pe_int (pa_cons (pe_un un_neg pe_int) pa_nil))) (pe_callTy call_int1 (by rfl) T.n_int bt_int (pa_cons (pe_cmpR op_gt (pv 1) (pe_op op_add (pe_op op_mul pe_int (pv 3)) pe_int) (nomark _)) pa_nil)) (fun _ _ => rfl)))) pa_nil))))))
      (pss_cons (ps_set (i := 2) sc_law_near.nd rfl (Or.inl rfl) (pe_callB cr_sorted (by rfl) T.n_sorted bt_sorted (pa_cons (pv 2) pa_nil)))
      (pss_cons (ps_if (PW.pt (pw_and (pt_cmpR op_gt (pv 1) pe_int (nomark _)) (pw_and1 (pt_cmpR op_eq (pe_c c_law_take hr (by decide) rfl (pa_cons (pv 0) (pa_cons pe_int pa_nil))) pe_int (nomark _))))) (pss_one (ps_asg pe_int (pg_sub (pv 2) pe_int set_list))) pss_nil)
      (pss_one (ps_ret (pv 2))))))), ?_⟩
  obtain ⟨pl, cl, own, rfl, pa, o0, o1, q⟩ := h
  refine q_asgL (el_lst ea_nil (Nat.zero_le _)) fun l H1 hl e1 h1 => ?_
  have hl0 : H l = none := hl
  obtain ⟨nlp, nlc⟩ := pa.new hl0
  have np : l ∉ [pl] := fun m => nlp (List.mem_singleton.mp m)
  refine q_forR1p (Φ := fun n H2 => 1 ≤ n ∧ n ≤ 4 ∧ PlAt K H2 pl cl ∧ Fz [pl] H1 H2) (fun Q' q' => ⟨_, rfl, pl, cl, 4, rfl, pa.ex e1, by decide, by decide, fun r H2 r0 r1 p2 f2 => ⟨1, r, rfl, rfl, q' _ H2 ⟨by omega, by omega, p2, f2⟩⟩⟩) (fun n H2 p => by omega)
    (fun n i σ' H' => (1 ≤ n ∧ n ≤ 4) ∧ (∃ x y, σ' = [some (.ref pl), some (.int own), some (.ref l), x, y]) ∧ PlAt K H' pl cl ∧ Fz [pl] H H' ∧ ∃ ns : List Int, H' l = some (.lst (ns.map V.int)) ∧ ns.length = i ∧ ns.Nodup ∧ ∀ m ∈ ns, 1 ≤ m ∧ m ≤ 100 ∧ (m - own).natAbs ≤ 7 * i)
    (fun n H2 p => ⟨⟨p.1, p.2.1⟩, ⟨_, _, rfl⟩, p.2.2.1, (Fz.of e1).trans p.2.2.2, [], p.2.2.2 _ _ h1 np, rfl, List.nodup_nil, fun m hm => by cases hm⟩) (fun n i σ' H' hi p => ?_) fun n σ' H' p => ?_
  · obtain ⟨hn, ⟨x, y, rfl⟩, p2, f2, ns, h2, hl2, nd, hb⟩ := p
    refine ⟨_, rfl, 7, _, rfl, rfl, .inl ⟨by decide, by decide⟩, _, 1, rfl, rfl, _, rfl, pl, cl, 7, rfl, p2, by decide, by decide, fun r H3 r0 r1 p3 f3 => ⟨_, _, rfl, rfl, ?_⟩⟩
    have h3 := f3 _ _ h2 np
    have hk : ∃ k : Int, atI [V.int 1, V.int (-1)] (if decide (7 * (i : Int) + 7 < own) = true then 1 else 0) = some (.int k) ∧ (k = 1 ∨ k = -1) ∧ (k = -1 ↔ own > 7 * (i : Int) + 7) := by
      by_cases c : 7 * (i : Int) + 7 < own
      · exact ⟨-1, by rw [decide_eq_true c]; rfl, .inr rfl, fun _ => c, fun _ => rfl⟩
      · exact ⟨1, by rw [decide_eq_false c]; rfl, .inl rfl, fun h => by omega, fun h => absurd h c⟩
    obtain ⟨k, hk1, hk2, hk3⟩ := hk
    have hm : 1 ≤ own + (7 * (i : Int) + 1 + r) * k ∧ own + (7 * (i : Int) + 1 + r) * k ≤ 100 ∧ (own + (7 * (i : Int) + 1 + r) * k - own).natAbs ≤ 7 * (i + 1) ∧ 7 * i < (own + (7 * (i : Int) + 1 + r) * k - own).natAbs := by
      rcases hk2 with h | h
      · subst h
        have : ¬ own > 7 * (i : Int) + 7 := fun h => by have := hk3.mpr h; omega
        rw [Int.mul_one]
        omega
      · subst h
        have := hk3.mp rfl
        rw [Int.mul_neg, Int.mul_one]
        omega
    refine s_app (v := .int (own + (7 * (i : Int) + 1 + r) * k)) h3 (ev_var rfl) (ev_op (ev_var rfl) (ev_op (ev_var rfl) (ev_opL1 (y := .int (if decide (7 * (i : Int) + 7 < own) = true then 1 else 0)) (xs := [.int 1, .int (-1)]) (el_lst (ea_cons ev_c (ea_cons (ev_un ev_c ru_neg) ea_nil)) (by decide)) (fun H4 e4 => ev_cb (ea_cons (ev_op (ev_var rfl) (ev_op (ev_op ev_c (ev_var rfl) (rv_I (.inl ⟨by decide, by decide⟩))) ev_c rv_I0) rv_I0) ea_nil) (fun H5 e5 Q' q' => .inr ⟨_, rfl, q' H5 (Ex.refl _)⟩)) fun p H5 h5 e5 => rv_ixL (sq_of h5) hk1) (rv_I (.inr (by omega)))) rv_I0) (by rw [List.length_map]; omega) fun H4 e4 => ?_
    refine ⟨hn, ⟨_, _, rfl⟩, (p3.ex e4).upd nlp nlc, (f2.trans (f3.trans (.of e4))).mut hl0, ns ++ [own + (7 * (i : Int) + 1 + r) * k], by rw [upd_same, List.map_append]; rfl, by rw [List.length_append, hl2]; rfl, ?_, fun m hm2 => ?_⟩
    · refine List.nodup_append.mpr ⟨nd, by simp, fun a ha b hb2 e => ?_⟩
      rw [List.mem_singleton.mp hb2] at e
      have := (hb a ha).2.2
      rw [e] at this
      omega
    · rcases List.mem_append.mp hm2 with h | h
      · have := hb m h; omega
      · rw [List.mem_singleton.mp h]; exact ⟨hm.1, hm.2.1, hm.2.2.1⟩
  · obtain ⟨hn, ⟨x, y, rfl⟩, p2, f2, ns, h2, hl2, nd, hb⟩ := p
    refine ⟨_, rfl, l, ns, rfl, sq_of h2, by omega, fun ns' p pm hs hp => ?_⟩
    have p3 := p2.ex (Ex.new (o := .lst (ns'.map V.int)) hp)
    obtain ⟨npp, npc⟩ := p2.new hp
    have hp0 : H p = none := by
      by_cases e : p = pl
      · exact absurd e npp
      · cases h : H p with
        | none => rfl
        | some o => have := f2 _ _ h (fun m => e (List.mem_singleton.mp m)); rw [hp] at this; cases this
    have f3 : Fz [pl] H (upd H' p (.lst (ns'.map V.int))) := f2.trans (.of (Ex.new hp))
    have h3 : upd H' p (.lst (ns'.map V.int)) p = some (.lst (ns'.map V.int)) := upd_same
    have nd0 := pm.nodup_iff.mpr nd
    have nd' : ns'.Pairwise (· < ·) := (hs.and nd0).imp fun ⟨h1, h2⟩ => by have h2 := h2; omega
    have hb' : ∀ m ∈ ns', 1 ≤ m ∧ m ≤ 100 := fun m hm => let h := hb m (pm.mem_iff.mp hm); ⟨h.1, h.2.1⟩
    have hl3 := pm.length_eq
    have fin : ∀ {H4 : Hp} {near : List Int}, H4 p = some (.lst (near.map V.int)) → PlAt K H4 pl cl → Fz [pl] H H4 → NearOk near → ∀ x y : Option V, tRet (tVar 2) { nx := fun _ H' => Q .non H', rt := Q } [some (.ref pl), some (.int own), some (.ref p), x, y] H4 :=
      fun h4 p4 f4 nk x y => ⟨_, rfl, q p _ _ hp0 p4 f4 h4 nk⟩
    have nk0 : NearOk ns' := ⟨nd', fun m hm => by have := hb' m hm; omega, by omega, by omega⟩
    dsimp only
    generalize upd H' p (.lst (ns'.map V.int)) = H3 at p3 f3 h3 ⊢
    refine ⟨_, rfl, _, 0, rfl, rfl, ?_⟩
    by_cases c : 0 < own
    · refine ⟨_, rfl, ?_⟩
      dsimp only
      rw [if_pos (decide_eq_true c)]
      refine ⟨_, rfl, pl, cl, 3, rfl, p3, by decide, by decide, fun r H4 r0 r1 p4 f4 => ⟨rfl, _, rfl, ?_⟩⟩
      have h4 := f4 _ _ h3 (fun m => npp (List.mem_singleton.mp m))
      by_cases c2 : V.int r = V.int 0
      · dsimp only
        rw [if_pos (decide_eq_true c2)]
        refine ⟨_, rfl, p, _, 0, 0, rfl, rfl, h4, ixN_nat (j := 0) (by rw [List.length_map]; omega), ?_⟩
        obtain ⟨a, rest, rfl⟩ : ∃ a rest, ns' = a :: rest := by
          cases ns' with
          | nil => simp at hl3; omega
          | cons a rest => exact ⟨a, rest, rfl⟩
        obtain ⟨nd1, nd2⟩ := List.pairwise_cons.mp nd'
        refine fin (near := 0 :: rest) (by rw [upd_same]; rfl) (p4.upd npp npc) ((f3.trans f4).mut hp0) ⟨List.pairwise_cons.mpr ⟨fun m h => ?_, nd2⟩, fun m hm => ?_, by simp, ?_⟩ _ _
        · have := hb' m (List.mem_cons_of_mem _ h); omega
        · rcases List.mem_cons.mp hm with h | h
          · omega
          · have := hb' m (List.mem_cons_of_mem _ h); omega
        · simp only [List.length_cons] at hl3 ⊢; omega
      · dsimp only
        rw [if_neg (fun h => c2 (of_decide_eq_true h))]
        exact fin h4 p4 (f3.trans f4) nk0 _ _
    · refine ⟨_, rfl, ?_⟩
      dsimp only
      rw [if_neg (fun h => c (of_decide_eq_true h))]
      rw [if_neg (fun h => Bool.false_ne_true h)]
      exact fin h3 p3 f3 nk0 _ _
end
end K33
/-! K20: texts out of the pile. -/
namespace K33
open PySem PySem.Spec PyProof.Rows L2 Evl TL
/-! ### texts -/
theorem tl_app (x y : Str) : (x ++ y).cps.toList = x.cps.toList ++ y.cps.toList := by
  show (x.cps ++ y.cps).toList = _
  rw [Array.toList_append]
theorem str_ext {x y : Str} (h : x.cps.toList = y.cps.toList) : x = y := PySem.W.str_of_cps h
theorem joinL_nil : ∀ l : List (List Nat), joinL [] l = l.flatten
  | [] => rfl
  | [p] => by simp [joinL]
  | p :: q :: r => by
    show p ++ ([] ++ joinL [] (q :: r)) = _
    rw [joinL_nil (q :: r)]
    simp
theorem join_tl (ys : List Str) : (Txt.join ("" : Str) ys).cps.toList = (ys.map fun y => y.cps.toList).flatten := by
  rw [join_eq]
  have := tl_join ("" : Str) ys
  rw [show tl ("" : Str) = [] from by decide +kernel, joinL_nil] at this
  exact this
theorem letters_at {j : Nat} (h : j < 26) : lettersS.cps.toList[j]? = some (97 + j) := by
  have e : lettersS.cps.toList = (List.range 26).map (· + 97) := by decide +kernel
  rw [e, List.getElem?_map, List.getElem?_range h]
  show some (j + 97) = _
  rw [Nat.add_comm]
theorem yes_go {σ : L2.St} {H : Hp} {A B : Hp → Prop} (h : A H) : tYes σ H fun b H3 => if b = true then A H3 else B H3 := by
  show (if true = true then A H else B H)
  rw [if_pos rfl]
  exact h
theorem atI_ex' {α : Type} {xs : List α} {i : Int} (h0 : 0 ≤ i) (h1 : i < xs.length) : ∃ v, atI xs i = some v ∧ xs[i.toNat]? = some v := by
  have e : i = ((i.toNat : Nat) : Int) := by omega
  have lt : i.toNat < xs.length := by omega
  refine ⟨xs[i.toNat], ?_, List.getElem?_eq_getElem lt⟩
  have h2 : ixN xs.length i = some i.toNat := by
    have := ixN_nat lt
    rw [← e] at this
    exact this
  unfold atI
  rw [h2]
  exact List.getElem?_eq_getElem lt
/-- the sign that tells texts apart -/
def tagOf (t : Int) (x : Str) : Option Nat := if t = 0 then x.cps.toList.getLast? else x.cps.toList.head?
theorem nodup_of_tags {t : Int} {xs : List Str} (h : (xs.map (tagOf t)).Nodup) : xs.Nodup := by
  induction xs with
  | nil => exact List.nodup_nil
  | cons x r ih =>
    obtain ⟨h1, h2⟩ := List.nodup_cons.mp h
    exact List.nodup_cons.mpr ⟨fun m => h1 (List.mem_map.mpr ⟨x, m, rfl⟩), ih h2⟩
/-- what heads the texts -/
def HeadOk (x : Str) : Prop := x.cps.toList.length ≤ 7 ∧ ∀ c ∈ x.cps.toList, small c
section
variable {P : Program} {w : World} {K : PySem.W.Frag} {mg : Str → Option Value} {base : Heap} {CS CP f : Addr} {fd : FuncData}
def TextsOk (xs : List Str) : Prop := xs.length = 3 ∧ xs.Nodup ∧ ∀ x ∈ xs, NameOk x
def spTexts (K : PySem.W.Frag) : Sp := fun vs H Q _ => ∃ pl cl, vs = [.ref pl, .int 3] ∧ PlAt K H pl cl ∧ ∀ p xs H', H p = none → PlAt K H' pl cl → Fz [pl] H H' → H' p = some (.lst (xs.map V.str)) → TextsOk xs → Q (.ref p) H'
theorem ok_law_texts (T : Txt K mg CS CP) (c_law_take : Cal P w K mg base "_law_take" 1 ["pile", "many"] (spTk K)) (F : FnP K "_law_texts" "_law_texts" s_law_texts f fd) : FnOk P w K mg base CX0 2 f fd ["pile", "many"] (spTexts K) := by
  refine F.ok sc_law_texts (fun vs H Q E h => ?_) (fun cdv A outer s H vs Q E hr h => ?_)
  · obtain ⟨a, cl, rfl, _⟩ := h; rfl
  refine ⟨_, PSs.nox (pss_cons (ps_set (i := 2) sc_law_texts.nd rfl (Or.inr rfl) pe_str)
      (pss_cons (ps_set (i := 3) sc_law_texts.nd rfl (Or.inl rfl) (pe_c c_law_take hr (by decide) rfl (pa_cons (pv 0) (pa_cons pe_int pa_nil))))
      (pss_cons (ps_set (i := 4) sc_law_texts.nd rfl (Or.inl rfl) (pe_c c_law_take hr (by decide) rfl (pa_cons (pv 0) (pa_cons pe_int pa_nil))))
      (pss_cons (ps_set (i := 5) sc_law_texts.nd rfl (Or.inl rfl) (pe_lst pa_nil))
      (pss_cons (ps_set (i := 6) sc_law_texts.nd rfl (Or.inl rfl) pe_str)
      (pss_cons (ps_for PassesOwn.never rfl (pi_range1 rfl T.n_range (pa_cons (pv 1) pa_nil)) (pg_name (i := 7) sc_law_texts.nd rfl (Or.inl rfl)) (pss_cons (ps_if (PW.pt (pw_or (pt_cmpR op_eq (pv 7) pe_int (nomark _)) (pw_or1 (pt_cmpR op_gt (pv 4) pe_int (nomark _))))) (pss_cons (ps_set (i := 8) sc_law_texts.nd rfl (Or.inl rfl) (pe_ix (r := rIxL K) ix_list (pe_lst (pa_cons pe_int (pa_cons pe_int (pa_cons pe_int (pa_cons pe_int pa_nil))))) (pe_c c_law_take hr (by decide) rfl (pa_cons (pv 0) (pa_cons pe_int pa_nil))) (fun _ _ => rfl)))
      (pss_one (ps_set (i := 6) sc_law_texts.nd rfl (Or.inl rfl) (pe_join pe_str (pe_lc (own := [("sign", 9)]) (g := gName 9) rfl sc_law_texts.nd (pi_range1 rfl T.n_range (pa_cons (pv 8) pa_nil)) (blkOk_by (own := [("sign", 9)]) (N := ["pile", "many", "letters", "last", "turn", "found", "head", "k", "size", "sign"]) (sc := defScope s_law_texts) (by decide +kernel)) (fun _ _ _ _ _ => pg_name (i := 9) sc_law_texts.nd rfl (Or.inl rfl)) (fun _ _ _ _ _ => pts_nil) (fun _ _ _ _ _ => (pe_ix ix_str (pv 2) (pe_c c_law_take hr (by decide) rfl (pa_cons (pv 0) (pa_cons pe_int pa_nil))) (fun _ _ => rfl)))))))) pss_nil)
      (pss_cons (ps_set (i := 9) sc_law_texts.nd rfl (Or.inl rfl) (pe_ix ix_str (pv 2) (pe_op op_mod (pe_op op_add (pv 3) (pe_op op_mul pe_int (pv 7))) pe_int) (fun _ _ => rfl)))
      (pss_one (ps_expr (pe_bm PySem.F.plainAttrs_list PySem.F.slot_list_append PySem.F.type_list_append mt_append (pv 5) (pa_cons (pe_ix (r := rIxL K) ix_list (pe_lst (pa_cons (pe_op op_add_str (pv 6) (pv 9)) (pa_cons (pe_op op_add_str (pv 9) (pv 6)) pa_nil))) (pe_op op_mod (pv 4) pe_int) (fun _ _ => rfl)) pa_nil)))))))
      (pss_one (ps_ret (pv 5))))))))), ?_⟩
  obtain ⟨pl, cl, rfl, pa, q⟩ := h
  refine q_asg ev_c fun H1 e1 => ?_
  refine ⟨_, rfl, pl, cl, 26, rfl, pa.ex e1, by decide, by decide, fun last H2 l0 l1 p2 f2 => ?_⟩
  refine ⟨_, rfl, pl, cl, 4, rfl, p2, by decide, by decide, fun turn H3 t0 t1 p3 f3 => ?_⟩
  refine q_asgL (el_lst ea_nil (Nat.zero_le _)) fun l H4 hl e4 h4 => ?_
  refine q_asg ev_c fun H5 e5 => ?_
  have f03 : Fz [pl] H H3 := (Fz.of e1).trans (f2.trans f3)
  have f05 : Fz [pl] H H5 := f03.trans (.of (e4.trans e5))
  have p5 := p3.ex (e4.trans e5)
  obtain ⟨nlp, nlc⟩ := p3.new hl
  have np : l ∉ [pl] := fun m => nlp (List.mem_singleton.mp m)
  have hl0 : H l = none := by
    cases h : H l with
    | none => rfl
    | some o => have := f03 _ _ h np; rw [hl] at this; cases this
  have tt : turn % 2 = 0 ∨ turn % 2 = 1 := by omega
  refine q_forR1 (n := 3) (ea_cons (ev_var rfl) ea_nil) (by decide) (fun i σ' H' => (∃ hd x y z, HeadOk hd ∧ σ' = [some (.ref pl), some (.int 3), some (.str lettersS), some (.int last), some (.int turn), some (.ref l), some (.str hd), x, y, z]) ∧ PlAt K H' pl cl ∧ Fz [pl] H H' ∧ ∃ xs : List Str, H' l = some (.lst (xs.map V.str)) ∧ xs.length = i ∧ (∀ x ∈ xs, NameOk x) ∧ xs.map (tagOf (turn % 2)) = (List.range i).map fun (j : Nat) => some (97 + ((last + 9 * (j : Int)) % 26).toNat))
    (fun H6 e6 => ⟨⟨_, _, _, _, ⟨by decide, fun c hc => by cases hc⟩, rfl⟩, p5.ex e6, f05.trans (.of e6), [], e6 _ _ (e5 _ _ h4), rfl, fun x hx => (by cases hx), rfl⟩) (fun i σ' H' hi p => ?_) fun σ' H' p => ?_
  · obtain ⟨⟨hd, x, y, z, hok, rfl⟩, p6, f6, xs, h6, hlen, hxs, htag⟩ := p
    -- the tail of the turn, from any head
    have tail : ∀ (hd : Str) (H7 : Hp) (y z : Option V) (D : Ends) (k : ∀ H8 z, PlAt K H8 pl cl → Fz [pl] H H8 → (∃ ys : List Str, H8 l = some (.lst (ys.map V.str)) ∧ ys.length = i + 1 ∧ (∀ x ∈ ys, NameOk x) ∧ ys.map (tagOf (turn % 2)) = (List.range (i + 1)).map fun (j : Nat) => some (97 + ((last + 9 * (j : Int)) % 26).toNat)) → D.nx [some (.ref pl), some (.int 3), some (.str lettersS), some (.int last), some (.int turn), some (.ref l), some (.str hd), some (.int (i : Int)), y, z] H8), HeadOk hd → PlAt K H7 pl cl → Fz [pl] H H7 → H7 l = some (.lst (xs.map V.str)) →
        tSeq (tAsg (tOp rIxS (tVar 2) (tOp (rI (fun _ j => 0 < j) fun i j => .int (i % j)) (tOp (rI0 fun i j => .int (i + j)) (tVar 3) (tOp (rI CMul fun i j => .int (i * j)) (tC (.int 9)) (tVar 7))) (tC (.int 26)))) (gName 9))
          (tDrop (tBM K "list" rAppend (tVar 5) (tCons (tOp (rIxL K) (tLst (tCons (tOp (fun x y H Q => ∃ i j, x = .str i ∧ y = .str j ∧ i.length + j.length ≤ sizeLine ∧ Q (.str (i ++ j)) H) (tVar 6) (tVar 9)) (tCons (tOp (fun x y H Q => ∃ i j, x = .str i ∧ y = .str j ∧ i.length + j.length ≤ sizeLine ∧ Q (.str (i ++ j)) H) (tVar 9) (tVar 6)) tNil))) (tOp (rI (fun _ j => 0 < j) fun i j => .int (i % j)) (tVar 4) (tC (.int 2)))) tNil))) D
          [some (.ref pl), some (.int 3), some (.str lettersS), some (.int last), some (.int turn), some (.ref l), some (.str hd), some (.int (i : Int)), y, z] H7 := by
      intro hd H7 y z D k hok p7 f7 h7
      have j0 : 0 ≤ (last + 9 * (i : Int)) % 26 := Int.emod_nonneg _ (by decide)
      have j1 : (last + 9 * (i : Int)) % 26 < 26 := Int.emod_lt_of_pos _ (by decide)
      have hc : atI lettersS.cps.toList ((last + 9 * (i : Int)) % 26) = some (97 + ((last + 9 * (i : Int)) % 26).toNat) := by
        have e : (last + 9 * (i : Int)) % 26 = ((((last + 9 * (i : Int)) % 26).toNat : Nat) : Int) := by omega
        have h2 : ixN lettersS.cps.toList.length ((last + 9 * (i : Int)) % 26) = some ((last + 9 * (i : Int)) % 26).toNat := by
          have := ixN_nat (n := lettersS.cps.toList.length) (j := ((last + 9 * (i : Int)) % 26).toNat) (by rw [show lettersS.cps.toList.length = 26 from by decide +kernel]; omega)
          rw [← e] at this
          exact this
        unfold atI
        rw [h2]
        exact letters_at (by omega)
      refine q_asg (v := .str ⟨#[97 + ((last + 9 * (i : Int)) % 26).toNat]⟩) (ev_op (ev_var rfl) (ev_op (ev_op (ev_var rfl) (ev_op ev_c (ev_var rfl) (rv_I (.inl ⟨by decide, by decide⟩))) rv_I0) ev_c (rv_I (by decide))) (rv_ixS (by decide +kernel) hc)) fun H8 e8 => ?_
      have hcs : small (97 + ((last + 9 * (i : Int)) % 26).toNat) := ⟨by omega, by omega⟩
      generalize hcd : 97 + ((last + 9 * (i : Int)) % 26).toNat = c at hcs
      have cat : ∀ {H9 : Hp} {x y : Str}, x.length + y.length ≤ 100000 → RV (fun x y H Q => ∃ i j, x = .str i ∧ y = .str j ∧ i.length + j.length ≤ sizeLine ∧ Q (.str (i ++ j)) H) (.str x) (.str y) H9 (.str (x ++ y)) := fun h H9 _ Q' q' => ⟨_, _, rfl, rfl, sz_of h, q' H9 (Ex.refl _)⟩
      have lh : hd.length ≤ 7 := by have := hok.1; rw [Array.length_toList] at this; exact this
      have hv : ∃ v : Str, atI [V.str (hd ++ ⟨#[c]⟩), V.str (⟨#[c]⟩ ++ hd)] (turn % 2) = some (.str v) ∧ NameOk v ∧ tagOf (turn % 2) v = some c := by
        have nk : ∀ v : Str, v.cps.toList.length = hd.cps.toList.length + 1 → (∀ d ∈ v.cps.toList, d ∈ hd.cps.toList ∨ d = c) → NameOk v := fun v h1 h2 => ⟨by omega, by have := hok.1; omega, fun d hd2 => (h2 d hd2).elim (hok.2 d) fun e => e ▸ hcs⟩
        rcases tt with t | t
        · refine ⟨hd ++ ⟨#[c]⟩, by rw [t]; rfl, nk _ (by rw [tl_app, List.length_append]; rfl) (fun d h => by rw [tl_app, List.mem_append] at h; exact h.imp id fun h => List.mem_singleton.mp h), ?_⟩
          unfold tagOf
          rw [t, if_pos rfl, tl_app]
          exact List.getLast?_concat
        · refine ⟨⟨#[c]⟩ ++ hd, by rw [t]; rfl, nk _ (by rw [tl_app, List.length_append]; show 1 + _ = _; omega) (fun d h => by rw [tl_app, List.mem_append] at h; exact h.symm.imp id fun h => List.mem_singleton.mp h), ?_⟩
          unfold tagOf
          rw [t, if_neg (by decide), tl_app]
          rfl
      obtain ⟨v, hv1, hv2, hv3⟩ := hv
      refine s_app (v := .str v) (e8 _ _ h7) (ev_var rfl) (ev_opL1 (y := .int (turn % 2)) (xs := [.str (hd ++ ⟨#[c]⟩), .str (⟨#[c]⟩ ++ hd)]) (el_lst (ea_cons (ev_op (ev_var rfl) (ev_var rfl) (cat (by show hd.length + 1 ≤ _; omega))) (ea_cons (ev_op (ev_var rfl) (ev_var rfl) (cat (by show 1 + hd.length ≤ _; omega))) ea_nil)) (by show 2 ≤ 100000; decide)) (fun H9 e9 => ev_op (ev_var rfl) ev_c (rv_I (by decide))) fun p H9 h9 e9 => rv_ixL (sq_of h9) hv1) (by rw [List.length_map]; have : (i : Int) < 3 := hi; omega) fun H9 e9 => ?_
      refine k _ _ ((p7.ex (e8.trans e9)).upd nlp nlc) ((f7.trans (.of (e8.trans e9))).mut hl0) ⟨xs ++ [v], by rw [upd_same, List.map_append]; rfl, by rw [List.length_append, hlen]; rfl, fun x hx => ?_, ?_⟩
      · rcases List.mem_append.mp hx with h | h
        · exact hxs x h
        · rw [List.mem_singleton.mp h]; exact hv2
      · rw [List.map_append, htag, List.range_succ, List.map_append]
        show _ ++ [tagOf (turn % 2) v] = _ ++ [some (97 + ((last + 9 * (i : Int)) % 26).toNat)]
        rw [hv3, hcd]
    refine q_when (b := decide (V.int (i : Int) = V.int 0) || decide (1 < turn)) (et_or (et_test (ev_op (ev_var rfl) ev_c (rv_eq rfl))) fun _ => et_test (ev_op (ev_var rfl) ev_c rv_I0)) (fun hb H7 e7 => ?_) (fun hb H7 e7 => ?_)
    · refine ⟨by show 4 ≤ sizeLine; decide, fun l4 hl4 => ?_⟩
      have e8 := e7.trans (Ex.new (o := .lst [.int 0, .int 1, .int 3, .int 7]) hl4)
      refine ⟨_, rfl, pl, cl, 4, rfl, p6.ex e8, by decide, by decide, fun r H9 r0 r1 p9 f9 => ?_⟩
      have n4 : l4 ≠ pl := ((p6.ex e7).new hl4).1
      obtain ⟨v, hv, hv2⟩ := atI_ex (xs := [.int 0, .int 1, .int 3, .int 7]) r0 r1
      have hsz : ∃ sz : Nat, v = .int (sz : Nat) ∧ sz ≤ 7 := by
        have := List.mem_of_getElem? hv2
        simp only [List.mem_cons, List.not_mem_nil, or_false] at this
        rcases this with h | h | h | h
        · exact ⟨0, h, by decide⟩
        · exact ⟨1, h, by decide⟩
        · exact ⟨3, h, by decide⟩
        · exact ⟨7, h, by decide⟩
      obtain ⟨sz, rfl, hsz⟩ := hsz
      refine ⟨l4, _, r, _, rfl, rfl, sq_of (f9 _ _ upd_same (fun m => n4 (List.mem_singleton.mp m))), hv, ?_⟩
      have f69 : Fz [pl] H H9 := f6.trans ((Fz.of e8).trans f9)
      have h9 : H9 l = some (.lst (xs.map V.str)) := f9 _ _ (e8 _ _ h6) np
      refine ⟨⟨_, rfl⟩, _, rfl, (sz : Nat), rfl, by omega, by omega, fun Dl hDl => ?_⟩
      have nD : Dl ≠ l := Ne.symm (ne_of_none h9 hDl)
      obtain ⟨nDp, nDc⟩ := p9.new hDl
      have hD0 : H Dl = none := by
        cases h : H Dl with
        | none => rfl
        | some o => have := f69 _ _ h (fun m => nDp (List.mem_singleton.mp m)); rw [hDl] at this; cases this
      refine lc_range (lo := 0) (n := ((sz : Nat) : Int).toNat) (fun k H' => PlAt K H' pl cl ∧ Fz [pl] H H' ∧ H' l = some (.lst (xs.map V.str)) ∧ ∃ ys : List Nat, H' Dl = some (.lst (ys.map fun c => V.str ⟨#[c]⟩)) ∧ ys.length = k ∧ ∀ c ∈ ys, small c)
        ⟨p9.upd nDp nDc, f69.mut hD0, by rw [upd_ne (Ne.symm nD)]; exact h9, [], upd_same, rfl, fun c hc => by cases hc⟩ (fun k H' hk p => ?_) fun H' p => ?_
      · obtain ⟨p10, f10, h10, ys, hys, hyl, hyc⟩ := p
        refine ⟨rfl, yes_go ?_⟩
        refine ⟨_, rfl, _, rfl, pl, cl, 26, rfl, p10, by decide, by decide, fun c H11 c0 c1 p11 f11 => ?_⟩
        have e26 : lettersS.cps.toList.length = 26 := by decide +kernel
        obtain ⟨d, hd1, hd2⟩ := atI_ex' (xs := lettersS.cps.toList) c0 (by rw [e26]; exact c1)
        rw [letters_at (by omega)] at hd2
        cases hd2
        refine ⟨lettersS, c, _, rfl, rfl, sz_of (by decide +kernel), hd1, _, f11 _ _ hys (fun m => nDp (List.mem_singleton.mp m)), sz_lt (by rw [List.length_map, hyl]; omega), p11.upd nDp nDc, (f10.trans f11).mut hD0, by rw [upd_ne (Ne.symm nD)]; exact f11 _ _ h10 np, ys ++ [97 + c.toNat], by rw [upd_same, List.map_append]; rfl, by rw [List.length_append, hyl]; rfl, fun d hd => ?_⟩
        rcases List.mem_append.mp hd with h | h
        · exact hyc d h
        · rw [List.mem_singleton.mp h]; exact ⟨by omega, by omega⟩
      · obtain ⟨p10, f10, h10, ys, hys, hyl, hyc⟩ := p
        have jt : (Txt.join ("" : Str) (ys.map fun c => (⟨#[c]⟩ : Str))).cps.toList = ys := by
          rw [join_tl, List.map_map]
          have : ∀ l : List Nat, (l.map ((fun y : Str => y.cps.toList) ∘ fun c => (⟨#[c]⟩ : Str))).flatten = l := fun l => by
            induction l with
            | nil => rfl
            | cons a r ih => rw [List.map_cons, List.flatten_cons, ih]; rfl
          exact this ys
        have sm : ((ys.map fun c => (⟨#[c]⟩ : Str)).map fun s : Str => s.length).sum = ys.length := by
          rw [List.map_map]
          have : ∀ l : List Nat, (l.map ((fun s : Str => s.length) ∘ fun c => (⟨#[c]⟩ : Str))).sum = l.length := fun l => by
            induction l with
            | nil => rfl
            | cons a r ih => rw [List.map_cons, List.sum_cons, ih, List.length_cons]; show 1 + _ = _; omega
          exact this ys
        refine ⟨_, Dl, ys.map fun c => (⟨#[c]⟩ : Str), rfl, rfl, .inl (sq_of (by rw [List.map_map]; exact hys)), ?_, ?_⟩
        · rw [sm, List.length_map]; show ys.length + ys.length * 0 ≤ _; omega
        · have hk2 : HeadOk (Txt.join ("" : Str) (ys.map fun c => (⟨#[c]⟩ : Str))) := ⟨by rw [jt, hyl]; omega, fun c hc => by rw [jt] at hc; exact hyc c hc⟩
          exact tail _ H' _ _ _ (fun H8 z p8 f8 h8 => ⟨⟨_, _, _, _, hk2, rfl⟩, p8, f8, h8⟩) hk2 p10 f10 h10
    · exact tail hd H7 _ _ _ (fun H8 z p8 f8 h8 => ⟨⟨hd, _, _, _, hok, rfl⟩, p8, f8, h8⟩) hok (p6.ex e7) (f6.trans (.of e7)) (e7 _ _ h6)
  · obtain ⟨⟨hd, x, y, z, hok, rfl⟩, p6, f6, xs, h6, hlen, hxs, htag⟩ := p
    refine s_ret (ev_var rfl) fun H7 e7 => ?_
    refine q l xs H7 hl0 (p6.ex e7) (f6.trans (.of e7)) (e7 _ _ h6) ⟨hlen, nodup_of_tags (t := turn % 2) ?_, hxs⟩
    rw [htag]
    have d01 : ((last + 9 * ((0 : Nat) : Int)) % 26).toNat ≠ ((last + 9 * ((1 : Nat) : Int)) % 26).toNat := by omega
    have d02 : ((last + 9 * ((0 : Nat) : Int)) % 26).toNat ≠ ((last + 9 * ((2 : Nat) : Int)) % 26).toNat := by omega
    have d12 : ((last + 9 * ((1 : Nat) : Int)) % 26).toNat ≠ ((last + 9 * ((2 : Nat) : Int)) % 26).toNat := by omega
    show [some _, some _, some _].Nodup
    simp only [List.nodup_cons, List.mem_cons, List.not_mem_nil, or_false, Option.some.injEq, List.nodup_nil, not_or, and_true, not_false_eq_true]
    exact ⟨⟨fun h => d01 (by omega), fun h => d02 (by omega)⟩, fun h => d12 (by omega)⟩
end
end K33
/-! K21: wishes out of the pile. -/
namespace K33
open PySem PySem.Spec PyProof.Rows L2 Evl TL
theorem lex_tri : ∀ a b : List Nat, a < b ∨ a = b ∨ b < a
  | [], [] => .inr (.inl rfl)
  | [], b :: s => .inl (List.nil_lt_cons _ _)
  | a :: r, [] => .inr (.inr (List.nil_lt_cons _ _))
  | a :: r, b :: s => by
    rw [List.cons_lt_cons_iff, List.cons_lt_cons_iff]
    rcases Nat.lt_trichotomy a b with h | h | h
    · exact .inl (.inl h)
    · subst h
      rcases lex_tri r s with h | h | h
      · exact .inl (.inr ⟨rfl, h⟩)
      · exact .inr (.inl (by rw [h]))
      · exact .inr (.inr (.inr ⟨rfl, h⟩))
    · exact .inr (.inr (.inl h))
theorem rising_pw : ∀ (l : List Str) (p : Str), risingS p l = true → (p :: l).Nodup → (p :: l).Pairwise fun x y => x.cps.toList < y.cps.toList
  | [], p, _, _ => by simp
  | x :: r, p, h, nd => by
    have h0 : (!ltCps x.cps.toList p.cps.toList && risingS x r) = true := h
    obtain ⟨h1, h2⟩ := Bool.and_eq_true_iff.mp h0
    obtain ⟨n1, n2⟩ := List.nodup_cons.mp nd
    have ih := rising_pw r x h2 n2
    have lt : p.cps.toList < x.cps.toList := by
      rcases lex_tri p.cps.toList x.cps.toList with h | h | h
      · exact h
      · exact absurd (by rw [str_ext h]; exact List.mem_cons_self ..) n1
      · have e := lt_meets x p
        rw [decide_eq_true h] at e
        rw [← e] at h1; cases h1
    refine List.pairwise_cons.mpr ⟨fun y hy => ?_, ih⟩
    rcases List.mem_cons.mp hy with e | hy
    · rw [e]; exact lt
    · exact List.lt_trans lt ((List.pairwise_cons.mp ih).1 y hy)
theorem sorted_pw {l : List Str} (h : sortedS l = true) (nd : l.Nodup) : l.Pairwise fun x y => x.cps.toList < y.cps.toList := by
  cases l with
  | nil => exact .nil
  | cons p l => exact rising_pw l p h nd
/-- fields: rising names -/
def FldsOk (fs : List Str) : Prop := fs.length = 3 ∧ (fs.Pairwise fun x y => x.cps.toList < y.cps.toList) ∧ ∀ x ∈ fs, NameOk x
section
variable {P : Program} {w : World} {K : PySem.W.Frag} {mg : Str → Option Value} {base : Heap} {CS CP f : Addr} {fd : FuncData}
def spWishL (K : PySem.W.Frag) : Sp := fun vs H Q _ => ∃ pl cl fa fs, vs = [.ref pl, .ref fa] ∧ PlAt K H pl cl ∧ H fa = some (.lst (fs.map V.str)) ∧ FldsOk fs ∧ ∀ v wi H', PlAt K H' pl cl → Fz [pl] H H' → WA K H' v wi → WOk wi → Q v H'
theorem ok_law_wish (T : Txt K mg CS CP) (c_law_take : Cal P w K mg base "_law_take" 1 ["pile", "many"] (spTk K)) (c_law_number : Cal P w K mg base "_law_number" 2 ["pile"] (spNum K)) (F : FnP K "_law_wish" "_law_wish" s_law_wish f fd) : FnOk P w K mg base CX0 3 f fd ["pile", "fields"] (spWishL K) := by
  refine F.ok sc_law_wish (fun vs H Q E h => ?_) (fun cdv A outer s H vs Q E hr h => ?_)
  · obtain ⟨a, cl, fa, fs, rfl, _⟩ := h; rfl
  refine ⟨_, PSs.nox (pss_cons (ps_set (i := 2) sc_law_wish.nd rfl (Or.inl rfl) (pe_tup pa_nil))
      (pss_cons (ps_for PassesOwn.never rfl (pi_list (pv 1)) (pg_name (i := 3) sc_law_wish.nd rfl (Or.inl rfl)) (pss_cons (ps_set (i := 4) sc_law_wish.nd rfl (Or.inl rfl) (pe_c c_law_take hr (by decide) rfl (pa_cons (pv 0) (pa_cons pe_int pa_nil))))
      (pss_one (ps_if (pt_cmpR op_gt (pv 4) pe_int (nomark _)) (pss_cons (ps_set (i := 5) sc_law_wish.nd rfl (Or.inl rfl) (pe_c c_law_number hr (by decide) rfl (pa_cons (pv 0) pa_nil)))
      (pss_cons (ps_set (i := 6) sc_law_wish.nd rfl (Or.inl rfl) (pe_op op_add (pv 5) (pe_c c_law_take hr (by decide) rfl (pa_cons (pv 0) (pa_cons pe_int pa_nil)))))
      (pss_cons (ps_set (i := 7) sc_law_wish.nd rfl (Or.inl rfl) (pe_lst (pa_cons (pe_tup (pa_cons pe_non (pa_cons pe_non pa_nil))) (pa_cons (pe_tup (pa_cons (pv 5) (pa_cons pe_non pa_nil))) (pa_cons (pe_tup (pa_cons pe_non (pa_cons (pv 5) pa_nil))) (pa_cons (pe_tup (pa_cons (pv 5) (pa_cons (pv 5) pa_nil))) (pa_cons (pe_tup (pa_cons (pv 5) (pa_cons (pv 6) pa_nil))) pa_nil)))))))
      (pss_one (ps_set (i := 2) sc_law_wish.nd rfl (Or.inl rfl) (pe_op op_catA (pv 2) (pe_tup (pa_cons (pe_op op_catA (pe_tup (pa_cons (pv 3) pa_nil)) (pe_ix (r := rIxL K) ix_list (pv 7) (pe_op op_sub (pv 4) pe_int) (fun _ _ => rfl))) pa_nil)))))))) pss_nil))))
      (pss_one (ps_ret (pv 2))))), ?_⟩
  obtain ⟨pl, cl, fa, fs, rfl, pa, hfa, ⟨fl3, pw, fok⟩, q⟩ := h
  have nfa : fa ≠ pl := pa.ne hfa (by rw [List.length_map, fl3]; decide)
  have nfm : fa ∉ [pl] := fun m => nfa (List.mem_singleton.mp m)
  refine q_asgU (eu_tup ea_nil (Nat.zero_le _)) fun t0 H1 ht0 e1 h1 => ?_
  refine q_forLn (ev_var rfl) (sq_of (e1 _ _ hfa)) (fun i σ' H' => ∃ v wi, (∃ a b c d e, σ' = [some (.ref pl), some (.ref fa), some v, a, b, c, d, e]) ∧ PlAt K H' pl cl ∧ Fz [pl] H H' ∧ WA K H' v wi ∧ WOk wi ∧ (∀ p ∈ wi, p.1 ∈ fs.take i) ∧ wi.length ≤ i)
    (fun H2 e2 => ⟨_, [], ⟨_, _, _, _, _, rfl⟩, pa.ex (e1.trans e2), .of (e1.trans e2), .tup (st_of (e2 _ _ h1)) .nil, ⟨.nil, fun p hp => (by cases hp), by decide, fun p hp => (by cases hp)⟩, fun p hp => (by cases hp), Nat.zero_le _⟩) (fun i σ' H' _ p => let ⟨_, _, _, _, f, _⟩ := p; sq_of (f _ _ hfa nfm)) (fun i x σ' H' hi p => ?_) fun σ' H' p => ?_
  · obtain ⟨v, wi, ⟨a, b, c, d, e, rfl⟩, p2, f2, wa, ok, mem, hl⟩ := p
    rw [List.getElem?_map] at hi
    obtain ⟨fx, hf, rfl⟩ := Option.map_eq_some_iff.mp hi
    have hi3 : i < fs.length := (List.getElem?_eq_some_iff.mp hf).1
    have memS : ∀ p ∈ wi, p.1 ∈ fs.take (i + 1) := fun p hp => by rw [take_of hf]; exact List.mem_append_left _ (mem p hp)
    refine ⟨_, rfl, pl, cl, 8, rfl, p2, by decide, by decide, fun r H3 r0 r1 p3 f3 => ?_⟩
    obtain ⟨z2, hz2⟩ := p2.lst
    have wa3 : WA K H3 v wi := WAs.st1 (fun _ _ => fz_st hz2 f3) wa
    refine s_when (et_test (ev_op (ev_var rfl) ev_c rv_I0)) (fun hb H4 e4 => ?_) (fun hb H4 e4 => ⟨v, wi, ⟨_, _, _, _, _, rfl⟩, p3.ex e4, f2.trans (f3.trans (.of e4)), wa3.ex e4, ok, memS, by omega⟩)
    have p4 := p3.ex e4
    have hr3 : 2 < r := of_decide_eq_true hb
    refine ⟨_, rfl, pl, cl, rfl, p4, fun one H5 p5 f5 => ?_⟩
    refine ⟨_, rfl, _, rfl, pl, cl, 6, rfl, p5, by decide, by decide, fun r6 H6 r60 r61 p6 f6 => ⟨_, _, rfl, rfl, ?_⟩⟩
    obtain ⟨z4, hz4⟩ := p4.lst
    obtain ⟨z5, hz5⟩ := p5.lst
    have wa6 : WA K H6 v wi := WAs.st1 (fun _ _ => fz_st hz5 f6) (WAs.st1 (fun _ _ => fz_st hz4 f5) (wa3.ex e4))
    have f26 : Fz [pl] H H6 := f2.trans (f3.trans ((Fz.of e4).trans (f5.trans f6)))
    refine ⟨by show 2 ≤ sizeLine; decide, fun s0 hs0 => ⟨_, rfl, by show 2 ≤ sizeLine; decide, fun s1 hs1 => ⟨_, rfl, by show 2 ≤ sizeLine; decide, fun s2 hs2 => ⟨_, rfl, _, rfl, by show 2 ≤ sizeLine; decide, fun s3 hs3 => ⟨_, rfl, _, rfl, by show 2 ≤ sizeLine; decide, fun s4 hs4 => ⟨by show 5 ≤ sizeLine; decide, fun ls hls => ?_⟩⟩⟩⟩⟩⟩
    have x0 := Ex.new (o := .tup [.non, .non]) hs0
    have x1 := Ex.new (o := .tup [.int one, .non]) hs1
    have x2 := Ex.new (o := .tup [.non, .int one]) hs2
    have x3 := Ex.new (o := .tup [.int one, .int one]) hs3
    have x4 := Ex.new (o := .tup [.int one, .int (one + r6)]) hs4
    have x5 := Ex.new (o := .lst [.ref s0, .ref s1, .ref s2, .ref s3, .ref s4]) hls
    have g0 := ((((x1.trans x2).trans x3).trans x4).trans x5) _ _ upd_same
    have g1 := (((x2.trans x3).trans x4).trans x5) _ _ upd_same
    have g2 := ((x3.trans x4).trans x5) _ _ upd_same
    have g3 := (x4.trans x5) _ _ upd_same
    have g4 := x5 _ _ upd_same
    have e6 := (((((x0.trans x1).trans x2).trans x3).trans x4).trans x5)
    have hls2 : upd _ ls (.lst [.ref s0, .ref s1, .ref s2, .ref s3, .ref s4]) ls = _ := upd_same (H := upd (upd (upd (upd (upd H6 s0 (.tup [.non, .non])) s1 (.tup [.int one, .non])) s2 (.tup [.non, .int one])) s3 (.tup [.int one, .int one])) s4 (.tup [.int one, .int (one + r6)]))
    dsimp only
    generalize upd (upd (upd (upd (upd (upd H6 s0 (.tup [.non, .non])) s1 (.tup [.int one, .non])) s2 (.tup [.non, .int one])) s3 (.tup [.int one, .int one])) s4 (.tup [.int one, .int (one + r6)])) ls (.lst [.ref s0, .ref s1, .ref s2, .ref s3, .ref s4]) = H7 at g0 g1 g2 g3 g4 e6 hls2 ⊢
    have p7 := p6.ex e6
    have wa7 := wa6.ex e6
    have f7 : Fz [pl] H H7 := f26.trans (.of e6)
    obtain ⟨u, hu, hu2⟩ := atI_ex (xs := [.ref s0, .ref s1, .ref s2, .ref s3, .ref s4]) (i := r - 3) (by omega) (by show r - 3 < 5; omega)
    have hsp : ∃ tk lo hi, u = .ref tk ∧ H7 tk = some (.tup [oV lo, oV hi]) ∧ ∀ l h : Int, lo = some l → hi = some h → l ≤ h := by
      have := List.mem_of_getElem? hu2
      simp only [List.mem_cons, List.not_mem_nil, or_false] at this
      rcases this with h | h | h | h | h
      · exact ⟨s0, none, none, h, g0, fun l h h1 _ => by cases h1⟩
      · exact ⟨s1, some one, none, h, g1, fun l h _ h2 => by cases h2⟩
      · exact ⟨s2, none, some one, h, g2, fun l h h1 _ => by cases h1⟩
      · exact ⟨s3, some one, some one, h, g3, fun l h h1 h2 => by cases h1; cases h2; exact Int.le_refl _⟩
      · exact ⟨s4, some one, some (one + r6), h, g4, fun l h h1 h2 => by cases h1; cases h2; omega⟩
    obtain ⟨tk, lo, hi', rfl, htk, hle⟩ := hsp
    obtain ⟨ta, xs, rfl, sq, dp⟩ := WA.ref wa7
    have lx : xs.length = wi.length := by rw [dp.length, List.length_map]
    have okN : WOk (wi ++ [(fx, lo, hi')]) := by
      refine ⟨List.pairwise_append.mpr ⟨ok.asc, by simp, fun p hp q hq => ?_⟩, fun p hp => ?_, by rw [List.length_append]; show wi.length + 1 ≤ 64; omega, fun p hp => ?_⟩
      · rw [List.mem_singleton.mp hq]
        have pw2 : (fs.take i ++ fs.drop i).Pairwise fun x y => x.cps.toList < y.cps.toList := by rw [List.take_append_drop]; exact pw
        exact (List.pairwise_append.mp pw2).2.2 _ (mem p hp) fx (by rw [drop_of hf]; exact List.mem_cons_self ..)
      · rcases List.mem_append.mp hp with h | h
        · exact ok.fld p h
        · rw [List.mem_singleton.mp h]; exact fok fx (List.mem_of_getElem? hf)
      · rcases List.mem_append.mp hp with h | h
        · exact ok.spn p h
        · rw [List.mem_singleton.mp h]; exact hle
    have memN : ∀ p ∈ wi ++ [(fx, lo, hi')], p.1 ∈ fs.take (i + 1) := fun p hp => by
      rcases List.mem_append.mp hp with h | h
      · exact memS p h
      · rw [List.mem_singleton.mp h, take_of hf]; exact List.mem_append_right _ (List.mem_singleton.mpr rfl)
    refine ⟨_, rfl, _, rfl, by show 1 ≤ sizeLine; decide, fun u1 hu1 => ⟨_, rfl, _, rfl, _, 3, rfl, rfl, ls, _, _, .ref tk, rfl, rfl, sq_of ((Ex.new (o := .tup [.str fx]) hu1) _ _ hls2), hu, u1, tk, [.str fx], [oV lo, oV hi'], rfl, rfl, st_of upd_same, st_of ((Ex.new (o := .tup [.str fx]) hu1) _ _ htk), by show 3 ≤ sizeLine; decide, fun h => (by cases h), fun _ h => (by cases h), fun _ _ u2 hu2 => ⟨by show 1 ≤ sizeLine; decide, fun u3 hu3 => ?_⟩⟩⟩
    have y1 := Ex.new (o := .tup [.str fx]) hu1
    have y2 := Ex.new (o := .tup ([.str fx] ++ [oV lo, oV hi'])) hu2
    have y3 := Ex.new (o := .tup [.ref u2]) hu3
    have y := (y1.trans y2).trans y3
    have hu2' := y3 _ _ (upd_same (a := u2) (o := .tup ([.str fx] ++ [oV lo, oV hi'])))
    have dpt : ∀ {H9 : Hp}, Ex (upd (upd (upd H7 u1 (.tup [.str fx])) u2 (.tup ([.str fx] ++ [oV lo, oV hi']))) u3 (.tup [.ref u2])) H9 → Dp K H9 (.ref u2) (pD (fx, lo, hi')) := fun e9 => .tup (st_of (e9 _ _ hu2')) (.cons (.str _) (.cons (oD_of _) (.cons (oD_of _) .nil)))
    refine ⟨ta, u3, xs, [.ref u2], rfl, rfl, ex_t y sq, st_of upd_same, sz_of (by rw [lx]; show wi.length + 1 ≤ 100000; omega), fun hx => ?_, fun _ h => (by cases h), fun _ _ u4 hu4 => ?_⟩
    · subst hx
      have hw0 : wi = [] := List.length_eq_zero_iff.mp lx.symm
      subst hw0
      have w9 : WA K (upd (upd (upd H7 u1 (.tup [.str fx])) u2 (.tup ([.str fx] ++ [oV lo, oV hi']))) u3 (.tup [.ref u2])) (.ref u3) [(fx, lo, hi')] := .tup (st_of upd_same) (.cons (dpt (Ex.refl _)) .nil)
      exact ⟨_, [] ++ [(fx, lo, hi')], ⟨_, _, _, _, _, rfl⟩, p7.ex y, f7.trans (.of y), w9, okN, memN, by show 1 ≤ i + 1; omega⟩
    · have y4 := Ex.new (o := .tup (xs ++ [.ref u2])) hu4
      refine ⟨_, wi ++ [(fx, lo, hi')], ⟨_, _, _, _, _, rfl⟩, p7.ex (y.trans y4), f7.trans (.of (y.trans y4)), .tup (st_of upd_same) ?_, okN, memN, by rw [List.length_append]; show wi.length + 1 ≤ i + 1; omega⟩
      rw [List.map_append]
      exact (dp.ex (y.trans y4)).append (.cons (dpt y4) .nil)
  · obtain ⟨v, wi, ⟨a, b, c, d, e, rfl⟩, p2, f2, wa, ok, mem, hl⟩ := p
    exact s_ret (ev_var rfl) fun H3 e3 => q v wi H3 (p2.ex e3) (f2.trans (.of e3)) (wa.ex e3) ok
end
end K33
/-! K22: dicts of lists; _law_base, _law_all_covered, _law_said_right. -/
namespace K33
open PySem PySem.Spec PyProof.Rows L2 Evl TL
/-! ### a dict of lists of wishes, by a function -/
def fU {α : Type} [DecidableEq α] (g : α → List Wish) (k : α) (ws : List Wish) : α → List Wish := fun j => if j = k then ws else g j
theorem fU_same {α : Type} [DecidableEq α] {g : α → List Wish} {k : α} {ws : List Wish} : fU g k ws k = ws := if_pos rfl
theorem fU_ne {α : Type} [DecidableEq α] {g : α → List Wish} {k j : α} {ws : List Wish} (h : j ≠ k) : fU g k ws j = g j := if_neg h
structure DF (K : PySem.W.Frag) (H : Hp) (d : Addr) (kvs : List (Key × V)) (g : Key → List Wish) : Prop where
  at_ : H d = some (.dK kvs)
  nd : (kvs.map (·.1)).Nodup
  val : ∀ k ∈ kvs.map (·.1), ∃ a, valV kvs k = some (.ref a) ∧ LN K H a (g k)
theorem keys_old {kvs : List (Key × V)} {k : Key} (h : k ∈ kvs.map (·.1)) (v : V) : (putK kvs k v).map (·.1) = kvs.map (·.1) := by
  unfold putK
  have h2 : (kvs.any fun kv => decide (kv.1 = k)) = true := by
    obtain ⟨x, hx, e⟩ := List.mem_map.mp h
    exact List.any_eq_true.mpr ⟨x, hx, decide_eq_true e⟩
  rw [if_pos h2, List.map_map]
  refine List.map_congr_left fun x _ => ?_
  show (if x.1 = k then (x.1, v) else x).1 = x.1
  split <;> rfl
theorem keys_new {kvs : List (Key × V)} {k : Key} (h : ¬ k ∈ kvs.map (·.1)) (v : V) : (putK kvs k v).map (·.1) = kvs.map (·.1) ++ [k] := by
  unfold putK
  have h2 : ¬ (kvs.any fun kv => decide (kv.1 = k)) = true := fun q => by
    obtain ⟨x, hx, e⟩ := List.any_eq_true.mp q
    exact h (List.mem_map.mpr ⟨x, hx, of_decide_eq_true e⟩)
  rw [if_neg h2, List.map_append]; rfl
theorem keys_dropK (kvs : List (Key × V)) (k : Key) : (dropK kvs k).map (·.1) = (kvs.map (·.1)).filter fun j => decide (j ≠ k) := by
  unfold dropK
  rw [List.filter_map]; rfl
theorem valV_dropK {kvs : List (Key × V)} {k j : Key} (h : j ≠ k) : valV (dropK kvs k) j = valV kvs j := by
  induction kvs with
  | nil => rfl
  | cons p r ih =>
    by_cases e : p.1 = k
    · rw [dropK_pos e, ih, valV_neg (fun q => h (by rw [← q, e]))]
    · rw [dropK_neg e]
      by_cases q : p.1 = j
      · rw [valV_pos q, valV_pos q]
      · rw [valV_neg q, valV_neg q, ih]
theorem valV_mem {kvs : List (Key × V)} {k : Key} (h : k ∈ kvs.map (·.1)) : ∃ v, valV kvs k = some v := by
  cases e : valV kvs k with
  | some v => exact ⟨v, rfl⟩
  | none => exact absurd h (valV_not e)
theorem valV_isSome (kvs : List (Key × V)) (k : Key) : (valV kvs k).isSome = true ↔ k ∈ kvs.map (·.1) := by
  constructor
  · intro h
    obtain ⟨v, e⟩ := Option.isSome_iff_exists.mp h
    exact valV_in e
  · intro h
    obtain ⟨v, e⟩ := valV_mem h
    rw [e]; rfl
section
variable {K : PySem.W.Frag} {H H' : Hp} {d : Addr} {kvs : List (Key × V)} {g : Key → List Wish}
theorem LN.kept {a : Addr} {ws : List Wish} (h : LN K H a ws) (k : Kept H H') : LN K H' a ws := let ⟨rs, h1, h2⟩ := h; ⟨rs, k _ _ h1 trivial, k.dps h2⟩
theorem LN.ex {a : Addr} {ws : List Wish} (h : LN K H a ws) (e : Ex H H') : LN K H' a ws := h.kept (.of e)
theorem DF.kept (D : DF K H d kvs g) (k : Kept H H') (h : H' d = some (.dK kvs)) : DF K H' d kvs g := ⟨h, D.nd, fun j hj => let ⟨a, h1, h2⟩ := D.val j hj; ⟨a, h1, h2.kept k⟩⟩
theorem DF.ex (D : DF K H d kvs g) (e : Ex H H') : DF K H' d kvs g := D.kept (.of e) (e _ _ D.at_)
theorem DF.new (h : H d = some (.dK [])) : DF K H d [] g := ⟨h, List.nodup_nil, fun k hk => by cases hk⟩
theorem DF.put (D : DF K H d kvs g) (k : Key) {a : Addr} {ws : List Wish} (ln : LN K H a ws) : DF K (upd H d (.dK (putK kvs k (.ref a)))) d (putK kvs k (.ref a)) (fU g k ws) := by
  have kp : Kept H (upd H d (.dK (putK kvs k (.ref a)))) := .upd D.at_ not_hard_dK
  refine ⟨upd_same, ?_, fun j hj => ?_⟩
  · by_cases h : k ∈ kvs.map (·.1)
    · rw [keys_old h]; exact D.nd
    · rw [keys_new h]
      exact List.nodup_append.mpr ⟨D.nd, by simp, fun x hx y hy e => h (by rw [← List.mem_singleton.mp hy, ← e]; exact hx)⟩
  · by_cases e : j = k
    · subst e
      exact ⟨a, by rw [valV_put, if_pos rfl], by rw [fU_same]; exact ln.kept kp⟩
    · have hj' : j ∈ kvs.map (·.1) := by
        by_cases h : k ∈ kvs.map (·.1)
        · rw [keys_old h] at hj; exact hj
        · rw [keys_new h] at hj
          rcases List.mem_append.mp hj with h | h
          · exact h
          · exact absurd (List.mem_singleton.mp h) e
      obtain ⟨b, h1, h2⟩ := D.val j hj'
      exact ⟨b, by rw [valV_put, if_neg e]; exact h1, by rw [fU_ne e]; exact h2.kept kp⟩
theorem DF.drop (D : DF K H d kvs g) (k : Key) : DF K (upd H d (.dK (dropK kvs k))) d (dropK kvs k) g := by
  have kp : Kept H (upd H d (.dK (dropK kvs k))) := .upd D.at_ not_hard_dK
  refine ⟨upd_same, by rw [keys_dropK]; exact D.nd.filter _, fun j hj => ?_⟩
  rw [keys_dropK] at hj
  obtain ⟨h1, h2⟩ := List.mem_filter.mp hj
  obtain ⟨b, h3, h4⟩ := D.val j h1
  exact ⟨b, by rw [valV_dropK (of_decide_eq_true h2)]; exact h3, h4.kept kp⟩
theorem el_cat {σ : L2.St} {ta tb : TE} {a b : Addr} {xs ys : List V} (ha : Ev ta σ H (.ref a)) (hb : Ev tb σ H (.ref b)) (h1 : H a = some (.lst xs)) (h2 : H b = some (.lst ys)) (hz : xs.length + ys.length ≤ 100000) : EvL (tOp rCat ta tb) σ H (xs ++ ys) := fun H1 e Q q =>
  ha H1 e _ fun H2 e2 => hb H2 (e.trans e2) _ fun H3 e3 => ⟨a, b, xs, ys, rfl, rfl, ((e.trans e2).trans e3) _ _ h1, ((e.trans e2).trans e3) _ _ h2, sz_of hz, fun p hp => q p _ (fresh_back (e2.trans e3) hp) ((e2.trans e3).trans (Ex.new hp)) upd_same⟩
theorem el_catN {σ : L2.St} {ta tb : TE} {a : Addr} {xs ys : List V} (ha : Ev ta σ H (.ref a)) (hb : EvL tb σ H ys) (h1 : H a = some (.lst xs)) (hz : xs.length + ys.length ≤ 100000) : EvL (tOp rCat ta tb) σ H (xs ++ ys) := fun H1 e Q q =>
  ha H1 e _ fun H2 e2 => hb H2 (e.trans e2) _ fun b H3 hb3 e3 h3 => ⟨a, b, xs, ys, rfl, rfl, ((e.trans e2).trans e3) _ _ h1, h3, sz_of hz, fun p hp => q p _ (fresh_back (e2.trans e3) hp) ((e2.trans e3).trans (Ex.new hp)) upd_same⟩
theorem el_catNN {σ : L2.St} {ta tb : TE} {xs ys : List V} (ha : EvL ta σ H xs) (hb : EvL tb σ H ys) (hz : xs.length + ys.length ≤ 100000) : EvL (tOp rCat ta tb) σ H (xs ++ ys) := fun H1 e Q q =>
  ha H1 e _ fun a H2 ha2 e2 h2 => hb H2 (e.trans e2) _ fun b H3 hb3 e3 h3 => ⟨a, b, xs, ys, rfl, rfl, e3 _ _ h2, h3, sz_of hz, fun p hp => q p _ (fresh_back (e2.trans e3) hp) ((e2.trans e3).trans (Ex.new hp)) upd_same⟩
end
section
variable {P : Program} {w : World} {K : PySem.W.Frag} {mg : Str → Option Value} {base : Heap} {CS CP f : Addr} {fd : FuncData}
theorem flat_snoc (l : List Key) (k : Key) (g : Key → List Wish) : (l ++ [k]).flatMap g = l.flatMap g ++ g k := by rw [List.flatMap_append]; simp
theorem flat_take (l : List Key) (i : Nat) (g : Key → List Wish) : ((l.take i).flatMap g).length ≤ (l.flatMap g).length := by
  conv => rhs; rw [← List.take_append_drop i l, List.flatMap_append, List.length_append]
  exact Nat.le_add_right _ _
def spBase (K : PySem.W.Frag) : Sp := fun vs H Q _ => ∃ hd kd b kh kk gh gk, vs = [.ref hd, .ref kd, .int b] ∧ DF K H hd kh gh ∧ DF K H kd kk gk ∧ hd ≠ kd ∧ (∀ kv ∈ kk, ∃ m : Int, kv.1 = .inl m) ∧ ((kh.map (·.1)).flatMap gh).length ≤ 10000 ∧ ((kk.map (·.1)).flatMap gk).length ≤ 10000 ∧
  ∀ p H', Ex H H' → LN K H' p ((kh.map (·.1)).flatMap gh ++ ((kk.map (·.1)).filter fun k => decide (k ≠ .inl b)).flatMap gk) → Q (.ref p) H'
theorem filt_len (l : List Key) (c : Key → Bool) (g : Key → List Wish) : ((l.filter c).flatMap g).length ≤ (l.flatMap g).length := by
  induction l with
  | nil => exact Nat.le_refl _
  | cons a r ih =>
    rw [List.filter_cons, List.flatMap_cons, List.length_append]
    split
    · rw [List.flatMap_cons, List.length_append]; omega
    · omega
theorem ok_law_base (T : Txt K mg CS CP) (F : FnP K "_law_base" "_law_base" s_law_base f fd) : FnOk P w K mg base CX0 1 f fd ["hands", "known", "beside"] (spBase K) := by
  refine F.ok sc_law_base (fun vs H Q E h => ?_) (fun cdv A outer s H vs Q E hr h => ?_)
  · obtain ⟨hd, kd, b, kh, kk, gh, gk, rfl, _⟩ := h; rfl
  have hu := hu_of hr
  refine ⟨_, PSs.nox (pss_cons (ps_set (i := 3) sc_law_base.nd rfl (Or.inl rfl) (pe_lst pa_nil))
      (pss_cons (ps_lock (ps_for PassesOwn.never rfl (pi_keys (pv 0)) (pg_name (i := 4) sc_law_base.nd rfl (Or.inl rfl)) (pss_one (ps_set (i := 3) sc_law_base.nd rfl (Or.inl rfl) (pe_op op_cat (pv 3) (pe_dget hu (pv 0) (pv 4) (fun _ _ => rfl)))))))
      (pss_cons (ps_lock (ps_for PassesOwn.never rfl (pi_keys (pv 1)) (pg_name (i := 5) sc_law_base.nd rfl (Or.inl rfl)) (pss_one (ps_if (pt_cmpR op_ne (pv 5) (pv 2) (nomark _)) (pss_one (ps_set (i := 3) sc_law_base.nd rfl (Or.inl rfl) (pe_op op_cat (pv 3) (pe_dget hu (pv 1) (pv 5) (fun _ _ => rfl))))) pss_nil))))
      (pss_one (ps_ret (pv 3)))))), ?_⟩
  obtain ⟨hd, kd, b, kh, kk, gh, gk, rfl, Dh, Dk, hne, hin, z1, z2, q⟩ := h
  refine q_asgL (el_lst ea_nil (Nat.zero_le _)) fun l H1 hl e1 h1 => ?_
  have kpf : ∀ {H0 : Hp} {d : Addr} {kvs : List (Key × V)} (od : Obj), H0 d = some (.dK kvs) → Kept H0 (upd H0 d (.frz od (.dK kvs))) := fun od h => .upd h not_hard_dK
  have unlock : ∀ {H0 H' : Hp} {d : Addr} {kvs : List (Key × V)} {od : Obj}, H0 d = some (.dK kvs) → Ex (upd H0 d (.frz od (.dK kvs))) H' → Ex H0 (upd H' d (.dK kvs)) := fun {H0 H' d kvs od} h e a o ha => by
    by_cases q : a = d
    · subst q; rw [upd_same, ← ha]; exact h.symm
    · rw [upd_ne q]; exact e _ _ (by rw [upd_ne q]; exact ha)
  have D1 := Dh.ex e1
  refine q_forK D1.at_ (fun od => ev_var rfl) (fun od i σ' H' => (∃ p x y, σ' = [some (.ref hd), some (.ref kd), some (.int b), some (.ref p), x, y] ∧ LN K H' p (((kh.map (·.1)).take i).flatMap gh)) ∧ Ex (upd H1 hd (.frz od (.dK kh))) H')
    (fun od H2 e2 => ⟨⟨_, _, _, rfl, [], e2 _ _ (by rw [upd_ne (fun e => by subst e; rw [D1.at_] at h1; cases h1)]; exact h1), .nil⟩, e2⟩) (fun od i σ' H' p => p.2 _ _ upd_same) (fun od i k v σ' H' hk p => ?_) fun od σ' H' p => ?_
  · obtain ⟨⟨p, x, y, rfl, rs, hp, was⟩, e2⟩ := p
    have hk2 : (kh.map (·.1))[i]? = some k := by rw [List.getElem?_map, hk]; rfl
    obtain ⟨a, ha, la⟩ := D1.val k (List.mem_of_getElem? hk2)
    obtain ⟨rs2, ha2, was2⟩ := (la.kept (kpf od D1.at_)).ex e2
    have hb1 := flat_take (kh.map (·.1)) (i + 1) gh
    rw [take_of hk2, flat_snoc, List.length_append] at hb1
    have l1 := was.length
    have l2 := was2.length
    refine s_asgL (el_cat (ev_var rfl) (ev_dget (v := .ref a) (ev_var rfl) (ev_var rfl) (.inl ⟨kh, k, .inr ⟨od, e2 _ _ upd_same⟩, rfl, ha.symm⟩)) hp ha2 (by omega)) fun p2 H3 hp3 e3 h3 => ?_
    refine ⟨⟨_, _, _, rfl, _, h3, ?_⟩, e2.trans e3⟩
    rw [take_of hk2, flat_snoc]
    unfold WAs
    rw [List.map_append]
    exact DpAll.append (was.ex e3) (was2.ex e3)
  · obtain ⟨⟨p, x, y, rfl, ln⟩, e2⟩ := p
    have e02 : Ex H (upd H' hd (.dK kh)) := e1.trans (unlock D1.at_ e2)
    rw [show (kh.map (·.1)).take kh.length = kh.map (·.1) from by rw [← List.length_map (f := (·.1)), List.take_length]] at ln
    have ln2 : LN K (upd H' hd (.dK kh)) p ((kh.map (·.1)).flatMap gh) := ln.kept (Kept.upd (e2 _ _ upd_same) (fun h => h))
    generalize upd H' hd (.dK kh) = H2 at e02 ln2
    have D2 := Dk.ex e02
    refine q_forK D2.at_ (fun od => ev_var rfl) (fun od i σ' H' => (∃ p x y, σ' = [some (.ref hd), some (.ref kd), some (.int b), some (.ref p), x, y] ∧ LN K H' p ((kh.map (·.1)).flatMap gh ++ (((kk.map (·.1)).take i).filter fun k => decide (k ≠ .inl b)).flatMap gk)) ∧ Ex (upd H2 kd (.frz od (.dK kk))) H')
      (fun od H3 e3 => ⟨⟨_, _, _, rfl, by simpa using (ln2.kept (kpf od D2.at_)).ex e3⟩, e3⟩) (fun od i σ' H' p => p.2 _ _ upd_same) (fun od i k v σ' H' hk p => ?_) fun od σ' H' p => ?_
    · obtain ⟨⟨p, x, y, rfl, rs, hp, was⟩, e3⟩ := p
      obtain ⟨m, hm⟩ := hin _ (List.mem_of_getElem? hk)
      have hm : k = .inl m := hm
      subst hm
      have hk2 : (kk.map (·.1))[i]? = some (.inl m) := by rw [List.getElem?_map, hk]; rfl
      have hflt := filt_len ((kk.map (·.1)).take (i + 1)) (fun k => decide (k ≠ .inl b)) gk
      have hb1 := flat_take (kk.map (·.1)) (i + 1) gk
      refine s_when (et_test (ev_op (x := .int m) (y := .int b) (ev_var rfl) (ev_var rfl) (rv_ne rfl))) (fun hb H4 e4 => ?_) (fun hb H4 e4 => ?_)
      · have ne : (Sum.inl m : Key) ≠ Sum.inl b := fun h => by rw [Sum.inl.inj h] at hb; simp at hb
        obtain ⟨a, ha, la⟩ := D2.val _ (List.mem_of_getElem? hk2)
        obtain ⟨rs2, ha2, was2⟩ := ((la.kept (kpf od D2.at_)).ex e3).ex e4
        rw [take_of hk2, List.filter_append, List.filter_cons_of_pos (by simpa using ne), List.filter_nil, flat_snoc, List.length_append] at hflt
        rw [take_of hk2] at hb1
        have l1 := was.length
        have l2 := was2.length
        rw [List.length_append] at l1
        refine s_asgL (el_cat (ev_var rfl) (ev_dget (v := .ref a) (ev_var rfl) (ev_var rfl) (.inl ⟨kk, .inl m, .inr ⟨od, (e3.trans e4) _ _ upd_same⟩, rfl, ha.symm⟩)) (e4 _ _ hp) ha2 (by omega)) fun p2 H5 hp5 e5 h5 => ?_
        refine ⟨⟨_, _, _, rfl, _, h5, ?_⟩, (e3.trans e4).trans e5⟩
        rw [take_of hk2, List.filter_append, List.filter_cons_of_pos (by simpa using ne), List.filter_nil, flat_snoc, ← List.append_assoc]
        unfold WAs at was was2 ⊢
        rw [List.map_append]
        exact DpAll.append (was.ex (e4.trans e5)) (was2.ex e5)
      · have eq : (Sum.inl m : Key) = Sum.inl b := by
          have : V.int m = V.int b := by simpa using hb
          rw [V.int.inj this]
        refine ⟨⟨_, _, _, rfl, ?_⟩, e3.trans e4⟩
        rw [take_of hk2, List.filter_append, List.filter_cons_of_neg (by simp [eq]), List.filter_nil, List.append_nil]
        exact ⟨rs, e4 _ _ hp, was.ex e4⟩
    · obtain ⟨⟨p, x, y, rfl, ln3⟩, e3⟩ := p
      rw [show (kk.map (·.1)).take kk.length = kk.map (·.1) from by rw [← List.length_map (f := (·.1)), List.take_length]] at ln3
      have ln4 : LN K (upd H' kd (.dK kk)) p _ := ln3.kept (Kept.upd (e3 _ _ upd_same) (fun h => h))
      exact s_ret (ev_var rfl) fun H4 e4 => q p H4 ((e02.trans (unlock D2.at_ e3)).trans e4) (ln4.ex e4)
/-- a comprehension that picks wishes, as a list -/
theorem el_pick {σ : L2.St} {H : Hp} {tl : TE} {t : TT} {j : Nat} {vs : List Nat} {a : Addr} {xs : List V} {ws : List Wish} (g : Wish → Bool) (h : Ev tl σ H (.ref a)) (hx : SqL K H a xs) (was : WAs K H xs ws) (hz : ws.length ≤ 40000) (hw : ∀ x, wipe ((wipe σ vs).set j (some x)) vs = wipe σ vs)
    (hj : ∀ x, ((wipe σ vs).set j (some x))[j]? = some (some x)) (ht : ∀ (x : V) (w : Wish) H1, Ex H H1 → w ∈ ws → WA K H1 x w → EvT t ((wipe σ vs).set j (some x)) H1 (g w)) : ∃ ys, WAs K H ys (ws.filter g) ∧ EvL (tLc (iList K tl) (gName j) t (tVar j) vs) σ H ys := by
  refine ⟨_, given_pick was g (fun i => g (ws.getD i [])) (fun i => xs.getD i .non) (fun i x h => by rw [List.getD_eq_getElem?_getD, h]; rfl) (fun i x h => by rw [List.getD_eq_getElem?_getD, h]; rfl), ?_⟩
  refine el_lcL (fun i => g (ws.getD i [])) (fun i => xs.getD i .non) h hx (by have := was.length; omega) hw (fun i x H2 e2 hi => ?_) (fun i x H2 e2 hi _ => ?_)
  · obtain ⟨o, ho, wo⟩ := was.get hi
    have e : ws.getD i [] = o := by rw [List.getD_eq_getElem?_getD, ho]; rfl
    rw [e]
    exact ht x o H2 e2 (List.mem_of_getElem? ho) (wo.ex e2)
  · have e : xs.getD i .non = x := by rw [List.getD_eq_getElem?_getD, hi]; rfl
    rw [e]
    exact ev_var (hj x)
theorem el_pickN {σ : L2.St} {H : Hp} {tl : TE} {t : TT} {j : Nat} {vs : List Nat} {xs : List V} {ws : List Wish} (g : Wish → Bool) (h : EvL tl σ H xs) (was : WAs K H xs ws) (hz : ws.length ≤ 40000) (hw : ∀ x, wipe ((wipe σ vs).set j (some x)) vs = wipe σ vs)
    (hj : ∀ x, ((wipe σ vs).set j (some x))[j]? = some (some x)) (ht : ∀ (x : V) (w : Wish) H1, Ex H H1 → w ∈ ws → WA K H1 x w → EvT t ((wipe σ vs).set j (some x)) H1 (g w)) : ∃ ys, WAs K H ys (ws.filter g) ∧ EvL (tLc (iList K tl) (gName j) t (tVar j) vs) σ H ys := by
  refine ⟨_, given_pick was g (fun i => g (ws.getD i [])) (fun i => xs.getD i .non) (fun i x h => by rw [List.getD_eq_getElem?_getD, h]; rfl) (fun i x h => by rw [List.getD_eq_getElem?_getD, h]; rfl), ?_⟩
  refine el_lcNL (fun i => g (ws.getD i [])) (fun i => xs.getD i .non) h (by have := was.length; omega) hw (fun i x H2 e2 hi => ?_) (fun i x H2 e2 hi _ => ?_)
  · obtain ⟨o, ho, wo⟩ := was.get hi
    have e : ws.getD i [] = o := by rw [List.getD_eq_getElem?_getD, ho]; rfl
    rw [e]
    exact ht x o H2 e2 (List.mem_of_getElem? ho) (wo.ex e2)
  · have e : xs.getD i .non = x := by rw [List.getD_eq_getElem?_getD, hi]; rfl
    rw [e]
    exact ev_var (hj x)
/-- [..] == [], [..] != [] -/
theorem ev_eq0 {σ : L2.St} {H : Hp} {te : TE} {xs : List V} {ws : List Wish} (h : EvL te σ H xs) (was : WAs K H xs ws) (ok : AllOk ws) : Ev (tOp (rEqD K) te (tLst tNil)) σ H (.bl (decide (ws = []))) :=
  ev_opLL h (el_lst ea_nil (Nat.zero_le _)) fun p r H1 hp hr e => rv_eqD (d := lD ws) (e := lD []) (fun H2 e2 => .lst (sq_of (e2 _ _ hp)) (was.ex (e.trans e2))) (fun H2 e2 => .lst (sq_of (e2 _ _ hr)) .nil) (lD_shaped ok) (lD_shaped fun u hu => by cases hu) (lD_eqv ws [])
theorem ev_ne0 {σ : L2.St} {H : Hp} {te : TE} {xs : List V} {ws : List Wish} (h : EvL te σ H xs) (was : WAs K H xs ws) (ok : AllOk ws) : Ev (tOp (rNeD K) te (tLst tNil)) σ H (.bl (!decide (ws = []))) :=
  ev_opLL h (el_lst ea_nil (Nat.zero_le _)) fun p r H1 hp hr e => rv_neD (d := lD ws) (e := lD []) (fun H2 e2 => .lst (sq_of (e2 _ _ hp)) (was.ex (e.trans e2))) (fun H2 e2 => .lst (sq_of (e2 _ _ hr)) .nil) (lD_shaped ok) (lD_shaped fun u hu => by cases hu) (by rw [lD_eqv])
def rAllCov (K : PySem.W.Frag) : List V → Hp → V → Prop := fun vs H r => ∃ a b ws hs, vs = [.ref a, .ref b] ∧ LA K H a ws ∧ LA K H b hs ∧ AllOk ws ∧ AllOk hs ∧ hs.length ≤ 30000 ∧ r = .bl (ws.all fun w => hs.any fun o => cov o w)
theorem ok_law_all_covered (T : Txt K mg CS CP) (c_law_covers : Cal P w K mg base "_law_covers" 1 ["one", "other"] (spR (rCov K))) (F : FnP K "_law_all_covered" "_law_all_covered" s_law_all_covered f fd) : FnOk P w K mg base CX0 2 f fd ["wishes", "heard"] (spR (rAllCov K)) := by
  refine F.ok sc_law_all_covered (fun vs H Q E h => ?_) (fun cdv A outer s H vs Q E hr h => ?_)
  · obtain ⟨r, ⟨a, b, ws, hs, rfl, _⟩, _⟩ := h; rfl
  refine ⟨_, PSs.nox (pss_cons (ps_for PassesOwn.never rfl (pi_list (pv 0)) (pg_name (i := 2) sc_law_all_covered.nd rfl (Or.inr rfl)) (pss_one (ps_if (pt_cmpR (r := rEqD K) (op_eqD hr.units) (pe_lc (own := [("one", 3)]) (g := gName 3) rfl sc_law_all_covered.nd (pi_list (pv 1)) (blkOk_by (own := [("one", 3)]) (N := ["wishes", "heard", "wish", "one"]) (sc := defScope s_law_all_covered) (by decide +kernel)) (fun _ _ _ _ _ => pg_name (i := 3) sc_law_all_covered.nd rfl (Or.inl rfl)) (fun _ _ _ _ _ => (pts_one (pt_val (pe_c c_law_covers hr (by decide) rfl (pa_cons (pv 3) (pa_cons (pv 2) pa_nil)))))) (fun _ _ _ _ _ => (pv 3))) (pe_lst pa_nil) (nomark _)) (pss_one (ps_ret pe_bl)) pss_nil)))
      (pss_one (ps_ret pe_bl))), ?_⟩
  obtain ⟨r, ⟨a, b, ws, hs, rfl, ⟨xs, sq, was⟩, ⟨ys, sqh, wah⟩, okw, okh, hz, rfl⟩, q⟩ := h
  have lx := was.length
  refine q_forLn (ev_var rfl) sq (fun i σ' H' => (∃ x, σ' = [some (.ref a), some (.ref b), x, none]) ∧ Ex H H' ∧ ((ws.take i).all fun w => hs.any fun o => cov o w) = true)
    (fun H1 e1 => ⟨⟨_, rfl⟩, e1, by simp⟩) (fun i σ' H' _ p => ex_l p.2.1 sq) (fun i x σ' H' hi p => ?_) fun σ' H' p => ?_
  · obtain ⟨⟨x1, rfl⟩, e1, al⟩ := p
    obtain ⟨wi, hw, wa⟩ := was.get hi
    have hm := List.mem_of_getElem? hw
    obtain ⟨zs, wz, ez⟩ := el_pick (K := K) (σ := [some (.ref a), some (.ref b), some x, none]) (tl := tVar 1) (t := tB (tCall (spR (rCov K)) [] E0 (tCons (tVar 3) (tCons (tVar 2) tNil)))) (j := 3) (vs := [3]) (fun o => cov o wi) (ev_var rfl) (ex_l e1 sqh) (wah.ex e1) (by omega) (fun _ => rfl) (fun _ => rfl)
      (fun y o H2 e2 ho wo => et_B (ev_c1 (ea_cons (ev_var rfl) (ea_cons (ev_var rfl) ea_nil)) fun H3 e3 => ⟨_, _, o, wi, rfl, wo.ex e3, wa.ex ((e1.trans e2).trans e3), okw wi hm, rfl⟩))
    refine s_when (et_test (ev_eq0 ez wz fun u hu => okh u (List.mem_filter.mp hu).1)) (fun hb H2 e2 => ?_) (fun hb H2 e2 => ?_)
    · have h0 : hs.filter (fun o => cov o wi) = [] := of_decide_eq_true hb
      refine s_ret ev_c fun H3 e3 => ?_
      have hf : (ws.all fun w => hs.any fun o => cov o w) = false := List.all_eq_false.mpr ⟨wi, hm, fun h => by
        obtain ⟨o, ho, hc⟩ := List.any_eq_true.mp h
        have : o ∈ hs.filter (fun o => cov o wi) := List.mem_filter.mpr ⟨ho, hc⟩
        rw [h0] at this; cases this⟩
      rw [hf] at q
      exact q H3 ((e1.trans e2).trans e3)
    · have h0 : hs.filter (fun o => cov o wi) ≠ [] := of_decide_eq_false hb
      refine ⟨⟨_, rfl⟩, e1.trans e2, ?_⟩
      rw [take_of hw, List.all_append, al, Bool.true_and]
      obtain ⟨o, ho⟩ := List.exists_mem_of_ne_nil _ h0
      obtain ⟨h1, h2⟩ := List.mem_filter.mp ho
      simp only [List.all_cons, List.all_nil, Bool.and_true]
      exact List.any_eq_true.mpr ⟨o, h1, h2⟩
  · obtain ⟨⟨x1, rfl⟩, e1, al⟩ := p
    rw [lx, List.take_length] at al
    rw [al] at q
    exact s_ret ev_c fun H3 e3 => q H3 (e1.trans e3)
end
end K33
/-! K23: _law_said_right. -/
namespace K33
open PySem PySem.Spec PyProof.Rows L2 Evl TL
theorem cut_to {xs : List V} {k : Nat} (h : k ≤ xs.length) : cutV xs none (some (k : Int)) = xs.take k := by
  unfold cutV
  have e : HT.sIx xs.length xs.length (some (k : Int)) = k := by rw [HT.sIx_nat]; omega
  have e0 : HT.sIx xs.length 0 none = 0 := rfl
  rw [e, e0, List.drop_zero, Nat.sub_zero]
theorem cut_from {xs : List V} {k : Nat} (h : k ≤ xs.length) : cutV xs (some (k : Int)) none = xs.drop k := by
  unfold cutV
  have e : HT.sIx xs.length 0 (some (k : Int)) = k := by rw [HT.sIx_nat]; omega
  have e0 : HT.sIx xs.length xs.length none = xs.length := rfl
  rw [e, e0]
  exact List.take_of_length_le (by rw [List.length_drop]; omega)
theorem atI_nat {xs : List V} {k : Nat} {v : V} (h : xs[k]? = some v) : atI xs (k : Int) = some v := by
  unfold atI
  rw [ixN_nat (List.getElem?_eq_some_iff.mp h).1]
  exact h
theorem not_at {α : Type} {l : List α} (nd : l.Nodup) {k : Nat} {x : α} (hx : l[k]? = some x) {y : α} (hy : y ∈ l.take k ++ l.drop (k + 1)) : y ≠ x ∧ y ∈ l := by
  have e : l = l.take k ++ x :: l.drop (k + 1) := by rw [← drop_of hx, List.take_append_drop]
  have nd2 : (l.take k ++ x :: l.drop (k + 1)).Nodup := e ▸ nd
  obtain ⟨n1, n2, n3⟩ := List.nodup_append.mp nd2
  obtain ⟨n4, n5⟩ := List.nodup_cons.mp n2
  rcases List.mem_append.mp hy with h | h
  · exact ⟨fun q => n3 y h x (List.mem_cons_self ..) q, List.mem_of_mem_take h⟩
  · exact ⟨fun q => n4 (q ▸ h), List.mem_of_mem_drop h⟩
section
variable {P : Program} {w : World} {K : PySem.W.Frag} {mg : Str → Option Value} {base : Heap} {CS CP f : Addr} {fd : FuncData}
structure SaidOk (ss hs bs : List Wish) : Prop where
  ok1 : AllOk ss
  ok2 : AllOk hs
  ok3 : AllOk bs
  len : ss.length = hs.length
  z1 : ss.length ≤ 1000
  mem : ∀ u ∈ ss, u ∈ hs ∧ u ∈ bs
  nd : ss.Nodup
  top : ∀ o ∈ ss, ∀ u ∈ ss, o ≠ u → cov o u = false
  over : ∀ u ∈ bs, ∃ o ∈ ss, cov o u = true
def rSaid (K : PySem.W.Frag) : List V → Hp → V → Prop := fun vs H r => ∃ a b c ss hs bs, vs = [.ref a, .ref b, .ref c] ∧ LA K H a ss ∧ LA K H b hs ∧ LA K H c bs ∧ SaidOk ss hs bs ∧ r = .bl true
theorem ok_law_said_right (T : Txt K mg CS CP) (c_law_covers : Cal P w K mg base "_law_covers" 1 ["one", "other"] (spR (rCov K))) (c_law_all_covered : Cal P w K mg base "_law_all_covered" 2 ["wishes", "heard"] (spR (rAllCov K)))
    (F : FnP K "_law_said_right" "_law_said_right" s_law_said_right f fd) : FnOk P w K mg base CX0 3 f fd ["said", "heard", "base"] (spR (rSaid K)) := by
  refine F.ok sc_law_said_right (fun vs H Q E h => ?_) (fun cdv A outer s H vs Q E hr h => ?_)
  · obtain ⟨r, ⟨a, b, c, ss, hs, bs, rfl, _⟩, _⟩ := h; rfl
  have hu65 := u65 hr
  refine ⟨_, PSs.nox (pss_cons (ps_if (pt_cmpR op_ne (pe_callB call_len_seq (by rfl) T.n_len bt_len (pa_cons (pv 0) pa_nil)) (pe_callB call_len_seq (by rfl) T.n_len bt_len (pa_cons (pv 1) pa_nil)) (nomark _)) (pss_one (ps_ret pe_bl)) pss_nil)
      (pss_cons (ps_if (pt_cmpR (r := rNeD K) (op_neD hr.units) (pe_lc (own := [("wish", 4)]) (g := gName 4) rfl sc_law_said_right.nd (pi_list (pv 0)) (blkOk_by (own := [("wish", 4)]) (N := ["said", "heard", "base", "k", "wish", "one"]) (sc := defScope s_law_said_right) (by decide +kernel)) (fun _ _ _ _ _ => pg_name (i := 4) sc_law_said_right.nd rfl (Or.inl rfl)) (fun _ _ _ _ _ => (pts_one (PW.pt (pw_or (pt_cmpR (r := rNotInD K) (op_notInD hu65) (pv 4) (pv 1) (by rfl)) (pw_or1 (pt_cmpR (r := rNotInD K) (op_notInD hu65) (pv 4) (pv 2) (by rfl))))))) (fun _ _ _ _ _ => (pv 4))) (pe_lst pa_nil) (nomark _)) (pss_one (ps_ret pe_bl)) pss_nil)
      (pss_cons (ps_for PassesOwn.never rfl (pi_range1 rfl T.n_range (pa_cons (pe_callB call_len_seq (by rfl) T.n_len bt_len (pa_cons (pv 0) pa_nil)) pa_nil)) (pg_name (i := 3) sc_law_said_right.nd rfl (Or.inr rfl)) (pss_one (ps_if (pt_cmpR (r := rNeD K) (op_neD hr.units) (pe_lc (own := [("one", 5)]) (g := gName 5) rfl sc_law_said_right.nd (pi_list (pe_op op_cat (pe_slice sl_list (pv 0) po_none (po_some (pv 3))) (pe_slice sl_list (pv 0) (po_some (pe_op op_add (pv 3) pe_int)) po_none))) (blkOk_by (own := [("one", 5)]) (N := ["said", "heard", "base", "k", "wish", "one"]) (sc := defScope s_law_said_right) (by decide +kernel)) (fun _ _ _ _ _ => pg_name (i := 5) sc_law_said_right.nd rfl (Or.inl rfl)) (fun _ _ _ _ _ => (pts_one (pt_val (pe_c c_law_covers hr (by decide) rfl (pa_cons (pv 5) (pa_cons (pe_ix (r := rIxL K) ix_list (pv 0) (pv 3) (fun _ _ => rfl)) pa_nil)))))) (fun _ _ _ _ _ => (pv 5))) (pe_lst pa_nil) (nomark _)) (pss_one (ps_ret pe_bl)) pss_nil)))
      (pss_one (ps_ret (pe_c c_law_all_covered hr (by decide) rfl (pa_cons (pv 2) (pa_cons (pv 0) pa_nil)))))))), ?_⟩
  obtain ⟨r, ⟨a, b, c, ss, hs, bs, rfl, la, lb, lc, S, rfl⟩, q⟩ := h
  have la' := la
  have lb' := lb
  obtain ⟨xs, sqa, was⟩ := la
  obtain ⟨ys, sqb, wbs⟩ := lb
  have lx := was.length
  have ly := wbs.length
  have hz := S.z1
  refine q_when (b := false) (et_is (et_test (ev_op (ev_lenL (ev_var rfl) sqa) (ev_lenL (ev_var rfl) sqb) (rv_ne rfl))) (by rw [lx, ly, S.len]; simp)) (fun h => by cases h) fun _ H1 e1 => ?_
  obtain ⟨zs, wz, ez⟩ := el_pick (K := K) (H := H1) (σ := [some (.ref a), some (.ref b), some (.ref c), none, none, none]) (tl := tVar 0) (t := tOr (tTest (tOp (rNotInD K) (tVar 4) (tVar 1))) (tTest (tOp (rNotInD K) (tVar 4) (tVar 2)))) (j := 4) (vs := [4]) (fun u => !decide (u ∈ hs) || !decide (u ∈ bs)) (ev_var rfl) (ex_l e1 sqa) (was.ex e1) (by omega) (fun _ => rfl) (fun _ => rfl)
    (fun y o H2 e2 ho wo => et_or (et_test (ev_op (ev_var rfl) (ev_var rfl) (rv_ninW wo (lb'.ex (e1.trans e2)) (S.ok1 o ho) S.ok2))) fun _ => et_test (ev_op (ev_var rfl) (ev_var rfl) (rv_ninW wo (lc.ex (e1.trans e2)) (S.ok1 o ho) S.ok3)))
  have f0 : ss.filter (fun u => !decide (u ∈ hs) || !decide (u ∈ bs)) = [] := List.filter_eq_nil_iff.mpr fun u hu => by simp [S.mem u hu]
  refine q_when (b := false) (et_is (et_test (ev_ne0 ez wz (by rw [f0]; exact fun u hu => by cases hu))) (by rw [f0]; rfl)) (fun h => by cases h) fun _ H2 e2 => ?_
  have e12 := e1.trans e2
  refine q_forR1 (n := ((ss.length : Nat) : Int)) (ea_cons (by rw [← lx]; exact ev_lenL (ev_var rfl) (ex_l e12 sqa)) ea_nil) (by omega) (fun i σ' H' => (∃ x, σ' = [some (.ref a), some (.ref b), some (.ref c), x, none, none]) ∧ Ex H H') (fun H3 e3 => ⟨⟨_, rfl⟩, e12.trans e3⟩) (fun i σ' H' hi p => ?_) fun σ' H' p => ?_
  · obtain ⟨⟨x, rfl⟩, e3⟩ := p
    have hi2 : i < ss.length := by omega
    have hw : ss[i]? = some ss[i] := List.getElem?_eq_getElem hi2
    have hm : ss[i] ∈ ss := List.getElem_mem hi2
    have hx : xs[i]? = some (xs[i]'(by omega)) := List.getElem?_eq_getElem (by omega)
    obtain ⟨w2, hw2, wa⟩ := was.get hx
    rw [hw] at hw2
    cases hw2
    have hcat : WAs K H' (xs.take i ++ xs.drop (i + 1)) (ss.take i ++ ss.drop (i + 1)) := by
      unfold WAs
      rw [List.map_append, List.map_take, List.map_drop]
      exact ((was.ex e3).take i).append ((was.ex e3).drop (i + 1))
    obtain ⟨zs, wz, ez⟩ := el_pickN (K := K) (H := H') (σ := [some (.ref a), some (.ref b), some (.ref c), some (.int (i : Int)), none, none]) (xs := xs.take i ++ xs.drop (i + 1)) (tl := tOp rCat (tSl (rSlL K) (tVar 0) tNoPart (tPart (tVar 3))) (tSl (rSlL K) (tVar 0) (tPart (tOp (rI0 fun i j => .int (i + j)) (tVar 3) (tC (.int 1)))) tNoPart))
      (t := tB (tCall (spR (rCov K)) [] E0 (tCons (tVar 5) (tCons (tOp (rIxL K) (tVar 0) (tVar 3)) tNil)))) (j := 5) (vs := [5]) (fun o => cov o ss[i])
      (el_catNN (by rw [← cut_to (by omega : i ≤ xs.length)]; exact el_sl (ev_var rfl) eo_none (eo_some (ev_var rfl)) (ex_l e3 sqa)) (by rw [← cut_from (by omega : i + 1 ≤ xs.length)]; exact el_sl (ev_var rfl) (eo_some (ev_op (ev_var rfl) ev_c rv_I0)) eo_none (ex_l e3 sqa)) (by rw [List.length_take, List.length_drop]; omega))
      hcat (by rw [List.length_append, List.length_take, List.length_drop]; omega) (fun _ => rfl) (fun _ => rfl)
      (fun y o H4 e4 ho wo => et_B (ev_c1 (ea_cons (ev_var rfl) (ea_cons (ev_op (ev_var rfl) (ev_var rfl) (rv_ixL (ex_l (e3.trans e4) sqa) (atI_nat hx))) ea_nil)) fun H5 e5 => ⟨_, _, o, ss[i], rfl, wo.ex e5, wa.ex ((e3.trans e4).trans e5), S.ok1 _ hm, rfl⟩))
    have f0 : (ss.take i ++ ss.drop (i + 1)).filter (fun o => cov o ss[i]) = [] := List.filter_eq_nil_iff.mpr fun o ho => by
      obtain ⟨n1, n2⟩ := not_at S.nd hw ho
      rw [S.top o n2 _ hm n1]; decide
    exact s_when (b := false) (et_is (et_test (ev_ne0 ez wz (by rw [f0]; exact fun u hu => by cases hu))) (by rw [f0]; rfl)) (fun h => by cases h) fun _ H4 e4 => ⟨⟨_, rfl⟩, e3.trans e4⟩
  · obtain ⟨⟨x, rfl⟩, e3⟩ := p
    have hall : (bs.all fun u => ss.any fun o => cov o u) = true := List.all_eq_true.mpr fun u hu => let ⟨o, h1, h2⟩ := S.over u hu; List.any_eq_true.mpr ⟨o, h1, h2⟩
    exact s_ret (v := .bl true) (ev_c1 (ea_cons (ev_var rfl) (ea_cons (ev_var rfl) ea_nil)) fun H4 e4 => ⟨_, _, bs, ss, rfl, lc.ex (e3.trans e4), la'.ex (e3.trans e4), S.ok3, S.ok1, by omega, by rw [hall]⟩) fun H4 e4 => q H4 (e3.trans e4)
end
end K33
/-! K24: _law_heard_right. -/
namespace K33
open PySem PySem.Spec PyProof.Rows L2 Evl TL
/-! ### letters heard one behind another -/
def kf (G : Int → List Wish) : Key → List Wish
  | .inl m => G m
  | .inr _ => []
theorem kf_fU (G : Int → List Wish) (m : Int) (ws : List Wish) : fU (kf G) (.inl m) ws = kf (fU G m ws) := by
  funext k
  cases k with
  | inl j =>
    by_cases e : j = m
    · subst e; rw [fU_same]; exact fU_same.symm
    · rw [fU_ne (fun h => e (Sum.inl.inj h))]; exact (fU_ne e).symm
  | inr x => rw [fU_ne (fun h => by cases h)]; rfl
def uI (un : Bool) : Int := if un = true then 1 else 0
def app (g : Int → List Wish) (l : Let) : Int → List Wish := fU g l.1 (if l.2.1 = true then (g l.1).filter (fun u => decide (u ≠ l.2.2)) else g l.1 ++ [l.2.2])
def Vd (near : List Int) (gb ga : Int → List Wish) (Φ : (Int → List Wish) → Prop) : (Int → List Wish) → Int × Int → List Let → Prop
  | g, _, [] => Φ g
  | g, last, l :: r => l.1 ∈ near ∧ HT.lexLt [l.1, uI l.2.1] [last.1, last.2] = false ∧ (l.2.2 ∈ g l.1 ↔ l.2.1 = true) ∧ WOk l.2.2 ∧ AllOk (g l.1) ∧ (g l.1).length ≤ 900 ∧ (∀ u ∈ gb l.1, u ∈ ga l.1 → ∃ o ∈ app g l l.1, cov o u = true) ∧ Vd near gb ga Φ (app g l) (l.1, uI l.2.1) r
theorem le_inv {K : PySem.W.Frag} {H : Hp} {x : V} {l : Let} (h : Dp K H x (leD l)) : ∃ t t2 z, x = .ref t ∧ SqT K H t [.int l.1, .ref t2] ∧ SqT K H t2 [.str (kindS l.2.1), z] ∧ WA K H z l.2.2 := by
  obtain ⟨t, xs, rfl, sq, dp⟩ := h.tup_inv
  cases dp with
  | cons h1 h2 =>
    cases h1
    cases h2 with
    | cons h3 h4 =>
      cases h4
      obtain ⟨t2, ys, rfl, sq2, dp2⟩ := h3.tup_inv
      cases dp2 with
      | cons g1 g2 =>
        cases g1
        cases g2 with
        | cons g3 g4 =>
          cases g4
          exact ⟨t, t2, _, rfl, sq, sq2, g3⟩
section
variable {P : Program} {w : World} {K : PySem.W.Frag} {mg : Str → Option Value} {base : Heap} {CS CP f : Addr} {fd : FuncData}
theorem DF.get {H : Hp} {d : Addr} {kvs : List (Key × V)} {G : Int → List Wish} {near : List Int} (D : DF K H d kvs (kf G)) (hk : kvs.map (·.1) = near.map Sum.inl) {m : Int} (hm : m ∈ near) : ∃ a, DGet H d (.int m) (some (.ref a)) ∧ LN K H a (G m) := by
  obtain ⟨a, h1, h2⟩ := D.val (.inl m) (by rw [hk]; exact List.mem_map.mpr ⟨m, hm, rfl⟩)
  exact ⟨a, by rw [← h1]; exact DGet.k (k := .inl m) D.at_, h2⟩
theorem kind_un (un : Bool) : decide (V.str (kindS un) = V.str "unwant") = un := by cases un <;> decide +kernel
theorem kind_want (un : Bool) : decide (V.str (kindS un) = V.str "want") = !un := by cases un <;> decide +kernel
theorem heard_tail {H : Hp} {D : Ends} {x0 x4 x6 x7 x8 x10 : Option V} {hd bd ad : Addr} {m : Int} {kh kb ka : List (Key × V)} {g gb ga : Int → List Wish} {near : List Int}
    (Dh : DF K H hd kh (kf g)) (Db : DF K H bd kb (kf gb)) (Da : DF K H ad ka (kf ga)) (nh : kh.map (·.1) = near.map Sum.inl) (nb : kb.map (·.1) = near.map Sum.inl) (na : ka.map (·.1) = near.map Sum.inl) (hm : m ∈ near)
    (ok1 : AllOk (g m)) (ok2 : AllOk (gb m)) (ok3 : AllOk (ga m)) (z1 : (g m).length ≤ 1000) (z2 : (gb m).length ≤ 2000) (cv : ∀ u ∈ gb m, u ∈ ga m → ∃ o ∈ g m, cov o u = true)
    (k : ∀ H' s, Ex H H' → D.nx [x0, some (.ref hd), some (.ref bd), some (.ref ad), x4, some (.int m), x6, x7, s, none, x10] H') :
    tSeq (tAsg (tLc (iList K (tDGet (tVar 2) (tVar 5))) (gName 9) (tTest (tOp (rInD K) (tVar 9) (tDGet (tVar 3) (tVar 5)))) (tVar 9) [9]) (gName 8))
      (tIfS (tNot (tB (tCall (spR (rAllCov K)) [] E0 (tCons (tVar 8) (tCons (tDGet (tVar 1) (tVar 5)) tNil))))) (tRet (tC (.bl false))) tNext) D
      [x0, some (.ref hd), some (.ref bd), some (.ref ad), x4, some (.int m), x6, x7, x8, none, x10] H := by
  obtain ⟨ab, gb1, lb⟩ := Db.get nb hm
  obtain ⟨aa, ga1, la⟩ := Da.get na hm
  obtain ⟨ah, gh1, lh⟩ := Dh.get nh hm
  obtain ⟨rs, hb, wb⟩ := lb
  obtain ⟨ys, wy, ey⟩ := el_pick (K := K) (H := H) (σ := [x0, some (.ref hd), some (.ref bd), some (.ref ad), x4, some (.int m), x6, x7, x8, none, x10]) (tl := tDGet (tVar 2) (tVar 5)) (t := tTest (tOp (rInD K) (tVar 9) (tDGet (tVar 3) (tVar 5)))) (j := 9) (vs := [9]) (fun u => decide (u ∈ ga m)) (ev_dget (ev_var rfl) (ev_var rfl) gb1) (sq_of hb) wb (by omega) (fun _ => rfl) (fun _ => rfl)
    (fun x u H1 e1 hu wu => et_test (ev_op (ev_var rfl) (ev_dget (ev_var rfl) (ev_var rfl) (dget_ex e1 ga1)) (rv_inW wu (la.la.ex e1) (ok2 u hu) ok3)))
  refine q_asgL ey fun p H1 hp e1 h1 => ?_
  have hall : (((gb m).filter fun u => decide (u ∈ ga m)).all fun u => (g m).any fun o => cov o u) = true := List.all_eq_true.mpr fun u hu => by
    obtain ⟨h1, h2⟩ := List.mem_filter.mp hu
    obtain ⟨o, h3, h4⟩ := cv u h1 (of_decide_eq_true h2)
    exact List.any_eq_true.mpr ⟨o, h3, h4⟩
  refine s_when (b := false) (et_not (et_B (ev_c1 (z := .bl true) (ea_cons (ev_var rfl) (ea_cons (ev_dget (ev_var rfl) (ev_var rfl) (dget_ex e1 gh1)) ea_nil)) fun H2 e2 => ⟨p, ah, _, g m, rfl, ⟨ys, sq_of (e2 _ _ h1), wy.ex (e1.trans e2)⟩, (lh.ex (e1.trans e2)).la, fun u hu => ok2 u (List.mem_filter.mp hu).1, ok1, by omega, by rw [hall]⟩))) (fun h => by cases h) fun _ H2 e2 => k H2 _ (e1.trans e2)
def spHeard (K : PySem.W.Frag) : Sp := fun vs H Q _ => ∃ v hd bd ad ls kh kb ka ge gb ga near Φ, vs = [v, .ref hd, .ref bd, .ref ad] ∧ LtA K H v ls ∧ DF K H hd kh (kf ge) ∧ DF K H bd kb (kf gb) ∧ DF K H ad ka (kf ga) ∧ kh.map (·.1) = near.map Sum.inl ∧ kb.map (·.1) = near.map Sum.inl ∧ ka.map (·.1) = near.map Sum.inl ∧ near.length ≤ 1000 ∧
  hd ≠ bd ∧ hd ≠ ad ∧ (∀ m ∈ near, AllOk (gb m) ∧ AllOk (ga m) ∧ (gb m).length ≤ 2000) ∧ Vd near gb ga Φ ge (-1, 0) ls ∧
  ∀ H' g' kh', DF K H' hd kh' (kf g') → kh'.map (·.1) = near.map Sum.inl → Φ g' → Fz [hd] H H' → Q (.bl true) H'
theorem ok_law_heard_right (T : Txt K mg CS CP) (c_law_all_covered : Cal P w K mg base "_law_all_covered" 2 ["wishes", "heard"] (spR (rAllCov K))) (F : FnP K "_law_heard_right" "_law_heard_right" s_law_heard_right f fd) : FnOk P w K mg base CX0 3 f fd ["letters", "heard", "before", "after"] (spHeard K) := by
  refine F.ok sc_law_heard_right (fun vs H Q E h => ?_) (fun cdv A outer s H vs Q E hr h => ?_)
  · obtain ⟨v, hd, bd, ad, ls, kh, kb, ka, ge, gb, ga, near, Φ, rfl, _⟩ := h; rfl
  have hu := hu_of hr
  have hu65 := u65 hr
  refine ⟨_, PSs.nox (pss_cons (ps_set (i := 4) sc_law_heard_right.nd rfl (Or.inl rfl) (pe_tup (pa_cons (pe_un un_neg pe_int) (pa_cons pe_int pa_nil))))
      (pss_cons (ps_for PassesOwn.never rfl (pi_list (pv 0)) (pg_tup rfl (pgs_cons (pg_name (i := 5) sc_law_heard_right.nd rfl (Or.inr rfl)) (pgs_cons (pg_name (i := 6) sc_law_heard_right.nd rfl (Or.inr rfl)) pgs_nil))) (pss_cons (ps_set (i := 7) sc_law_heard_right.nd rfl (Or.inl rfl) (pe_tup (pa_cons (pv 5) (pa_cons (pe_callTy call_int1 (by rfl) T.n_int bt_int (pa_cons (pe_cmpR op_eq (pe_ix (r := rIxT K) ix_tup (pv 6) pe_int (fun _ _ => rfl)) pe_str (nomark _)) pa_nil)) pa_nil))))
      (pss_cons (ps_if (PW.pt (pw_or (pt_cmp (pc_dnotin hu (pv 5) (pv 1))) (pw_or (pt_cmpR (op_ltT hr.units0) (pv 7) (pv 4) (nomark _)) (pw_or (pt_cmpR op_ne (pe_callB call_len_seq (by rfl) T.n_len bt_len (pa_cons (pv 6) pa_nil)) pe_int (nomark _)) (pw_or1 (pt_cmpR op_notIn_seq (pe_ix (r := rIxT K) ix_tup (pv 6) pe_int (fun _ _ => rfl)) (pe_tup (pa_cons pe_str (pa_cons pe_str pa_nil))) (by rfl))))))) (pss_one (ps_ret pe_bl)) pss_nil)
      (pss_cons (ps_set (i := 4) sc_law_heard_right.nd rfl (Or.inl rfl) (pv 7))
      (pss_cons (ps_if (pt_cmpR op_ne (pe_cmpR (r := rInD K) (op_inD hu65) (pe_ix (r := rIxT K) ix_tup (pv 6) pe_int (fun _ _ => rfl)) (pe_dget hu (pv 1) (pv 5) (fun _ _ => rfl)) (by rfl)) (pe_cmpR op_eq (pe_ix (r := rIxT K) ix_tup (pv 6) pe_int (fun _ _ => rfl)) pe_str (nomark _)) (nomark _)) (pss_one (ps_ret pe_bl)) pss_nil)
      (pss_cons (ps_if (pt_cmpR op_eq (pe_ix (r := rIxT K) ix_tup (pv 6) pe_int (fun _ _ => rfl)) pe_str (nomark _)) (pss_one (ps_dput hu (pv 1) (pv 5) (pe_op op_cat (pe_dget hu (pv 1) (pv 5) (fun _ _ => rfl)) (pe_lst (pa_cons (pe_ix (r := rIxT K) ix_tup (pv 6) pe_int (fun _ _ => rfl)) pa_nil))) rfl)) (pss_one (ps_dput hu (pv 1) (pv 5) (pe_lc (own := [("one", 10)]) (g := gName 10) rfl sc_law_heard_right.nd (pi_list (pe_dget hu (pv 1) (pv 5) (fun _ _ => rfl))) (blkOk_by (own := [("one", 10)]) (N := ["letters", "heard", "before", "after", "last", "neighbour", "letter", "place", "stays", "wish", "one"]) (sc := defScope s_law_heard_right) (by decide +kernel)) (fun _ _ _ _ _ => pg_name (i := 10) sc_law_heard_right.nd rfl (Or.inl rfl)) (fun _ _ _ _ _ => (pts_one (pt_cmpR (r := rNeD K) (op_neD hr.units) (pv 10) (pe_ix (r := rIxT K) ix_tup (pv 6) pe_int (fun _ _ => rfl)) (nomark _)))) (fun _ _ _ _ _ => (pv 10))) rfl)))
      (pss_cons (ps_setLc (own := [("wish", 9)]) (g := gName 9) (i := 8) rfl sc_law_heard_right.nd rfl rfl (sw_true rfl rfl rfl (by decide +kernel)) (pi_list (pe_dget hu (pv 2) (pv 5) (fun _ _ => rfl))) (blkOk_by (own := [("wish", 9)]) (N := ["letters", "heard", "before", "after", "last", "neighbour", "letter", "place", "stays", "wish", "one"]) (sc := defScope s_law_heard_right) (by decide +kernel)) (fun _ _ _ _ _ => pg_name (i := 9) sc_law_heard_right.nd rfl (Or.inl rfl)) (fun _ _ _ _ _ => (pts_one (pt_cmpR (r := rInD K) (op_inD hu65) (pv 9) (pe_dget hu (pv 3) (pv 5) (fun _ _ => rfl)) (by rfl)))) (fun _ _ _ _ _ => (pv 9)))
      (pss_one (ps_if (pt_not (pt_val (pe_c c_law_all_covered hr (by decide) rfl (pa_cons (pv 8) (pa_cons (pe_dget hu (pv 1) (pv 5) (fun _ _ => rfl)) pa_nil))))) (pss_one (ps_ret pe_bl)) pss_nil)))))))))
      (pss_one (ps_ret pe_bl)))), ?_⟩
  obtain ⟨v, hd, bd, ad, ls, kh, kb, ka, ge, gb, ga, near, Φ, rfl, ⟨l, xs, rfl, hl, dp⟩, Dh, Db, Da, nh, nb, na, zn, ne1, ne2, oks, vd, q⟩ := h
  refine q_asgU (eu_tup (ea_cons (ev_un ev_c ru_neg) (ea_cons ev_c ea_nil)) (by decide)) fun t0 H1 ht0 e1 h1 => ?_
  have lx : xs.length = ls.length := by rw [dp.length, List.length_map]
  have hlF : ∀ {H'}, Fz [hd] H H' → H' l = some (.lst xs) := fun f => f _ _ hl (fun m => by rw [List.mem_singleton.mp m, Dh.at_] at hl; cases hl)
  have kpF : ∀ {H'}, Fz [hd] H H' → Kept H H' := fun f => f.kept fun b hb => by rw [List.mem_singleton.mp hb]; exact ⟨_, Dh.at_, not_hard_dK⟩
  refine q_forL (ev_var rfl) (sq_of (e1 _ _ hl)) (fun i σ' H' => ∃ g kh' lt last x5 x6 x7 x8 x10, σ' = [some (.ref l), some (.ref hd), some (.ref bd), some (.ref ad), some (.ref lt), x5, x6, x7, x8, none, x10] ∧ H' lt = some (.tup [.int (Prod.fst last), .int (Prod.snd last)]) ∧ DF K H' hd kh' (kf g) ∧ kh'.map (·.1) = near.map Sum.inl ∧ Fz [hd] H H' ∧ Vd near gb ga Φ g last (ls.drop i))
    (fun H2 e2 => ⟨ge, kh, t0, (-1, 0), _, _, _, _, _, rfl, e2 _ _ h1, Dh.ex (e1.trans e2), nh, .of (e1.trans e2), vd⟩) (fun i σ' H' _ p => by obtain ⟨_, _, _, _, _, _, _, _, _, _, _, _, _, f, _⟩ := p; exact sq_of (hlF f)) (fun i x σ' H' hi p => ?_) fun σ' H' p => ?_
  · obtain ⟨g, kh', lt, last, x5, x6, x7, x8, x10, rfl, hlt, D', nk', f, vd'⟩ := p
    obtain ⟨d, hd1, hd2⟩ := dp.get hi
    rw [List.getElem?_map] at hd1
    obtain ⟨le, hle, rfl⟩ := Option.map_eq_some_iff.mp hd1
    rw [drop_of hle] at vd'
    obtain ⟨m, un, wi⟩ := le
    obtain ⟨hm, ho, hin, okw, okg, hz, hc, vn⟩ := vd'
    dsimp only at hm ho hin okw okg hz hc vn
    obtain ⟨t, t2, z, rfl, sq, sq2, wz⟩ := le_inv ((kpF f).dp hd2)
    obtain ⟨okb, oka, zb⟩ := oks m hm
    have Db' := Db.kept (kpF f) (f _ _ Db.at_ (fun h => ne1 (List.mem_singleton.mp h).symm))
    have Da' := Da.kept (kpF f) (f _ _ Da.at_ (fun h => ne2 (List.mem_singleton.mp h).symm))
    refine ⟨t, _, rfl, sq, rfl, _, _, rfl, _, _, rfl, rfl, ?_⟩
    dsimp only
    have i0 : ∀ {H5 : Hp} {σ : L2.St} (_ : Ex H' H5), σ[6]? = some (some (.ref t2)) → Ev (tOp (rIxT K) (tVar 6) (tC (.int 0))) σ H5 (.str (kindS un)) := fun e5 h => ev_op (ev_var h) ev_c (rv_ixT (ex_t e5 sq2) rfl)
    have i1 : ∀ {H5 : Hp} {σ : L2.St} (_ : Ex H' H5), σ[6]? = some (some (.ref t2)) → Ev (tOp (rIxT K) (tVar 6) (tC (.int 1))) σ H5 z := fun e5 h => ev_op (ev_var h) ev_c (rv_ixT (ex_t e5 sq2) rfl)
    refine q_asgU (xs := [.int m, .int (uI un)]) (eu_tup (ea_cons (ev_var rfl) (ea_cons (ev_cb (ea_cons (ev_op (i0 (Ex.refl _) rfl) ev_c (rv_eq rfl)) ea_nil) fun H5 e5 Q' q' => .inr ⟨_, rfl, by rw [kind_un]; exact q' H5 (Ex.refl _)⟩) ea_nil)) (by show 2 ≤ 100000; decide)) fun pl H2 hpl e2 h2 => ?_
    obtain ⟨ah, gh1, lh⟩ := D'.get nk' hm
    have hins : (valV kh' (.inl m)).isSome = true := (valV_isSome _ _).mpr (by rw [nk']; exact List.mem_map.mpr ⟨m, hm, rfl⟩)
    refine q_when (b := false) (et_is (et_or (et_B (ev_dnin (o := valV kh' (.inl m)) (ev_var rfl) (ev_var rfl) (DGet.k (k := .inl m) (e2 _ _ D'.at_)))) fun _ => et_or (b := false) (et_test (ev_op (ev_var rfl) (ev_var rfl) (fun H5 e5 Q' q' => ⟨pl, lt, [m, uI un], [last.1, last.2], rfl, rfl, st_of (e5 _ _ h2), st_of (e5 _ _ (e2 _ _ hlt)), q' H5 (Ex.refl _)⟩))) fun _ => et_or (a := false) (b := false) (et_test (ev_op (ev_lenT (ev_var rfl) (ex_t e2 sq2)) ev_c (rv_ne rfl))) fun _ => et_is (et_test (ev_niU (i0 e2 rfl) (eu_tup (ea_cons ev_c (ea_cons ev_c ea_nil)) (by decide)) rfl rfl)) (by cases un <;> decide +kernel)) (by rw [hins, ho]; rfl)) (fun h => by cases h) fun _ H3 e3 => ?_
    refine q_asg (ev_var rfl) fun H4 e4 => ?_
    have e24 := (e2.trans e3).trans e4
    refine q_when (b := false) (et_is (et_test (ev_op (ev_op (i1 e24 rfl) (ev_dget (ev_var rfl) (ev_var rfl) (dget_ex e24 gh1)) (rv_inW (wz.ex e24) (lh.ex e24).la okw okg)) (ev_op (i0 e24 rfl) ev_c (rv_eq rfl)) (rv_ne rfl))) ?_) (fun h => by cases h) fun _ H5 e5 => ?_
    · rw [kind_un]
      have : decide (wi ∈ g m) = un := by
        cases un with
        | true => exact decide_eq_true (hin.mpr rfl)
        | false => exact decide_eq_false fun h => by have := hin.mp h; cases this
      rw [this]; simp
    have e25 := e24.trans e5
    have kh1 := e25 _ _ D'.at_
    obtain ⟨rs, hrs, wrs⟩ := lh.ex e25
    -- behind the change of what was heard
    have rest : ∀ {H6 : Hp} {p : Addr} {ws : List Wish} (x10' : Option V), Ex H5 H6 → LN K H6 p ws → ws = (if un = true then (g m).filter (fun u => decide (u ≠ wi)) else g m ++ [wi]) → ws.length ≤ 1000 →
        tSeq (tAsg (tLc (iList K (tDGet (tVar 2) (tVar 5))) (gName 9) (tTest (tOp (rInD K) (tVar 9) (tDGet (tVar 3) (tVar 5)))) (tVar 9) [9]) (gName 8))
          (tIfS (tNot (tB (tCall (spR (rAllCov K)) [] E0 (tCons (tVar 8) (tCons (tDGet (tVar 1) (tVar 5)) tNil))))) (tRet (tC (.bl false))) tNext)
          { nx := fun σ' H' => ∃ g kh' lt last x5 x6 x7 x8 x10, σ' = [some (.ref l), some (.ref hd), some (.ref bd), some (.ref ad), some (.ref lt), x5, x6, x7, x8, none, x10] ∧ H' lt = some (.tup [.int (Prod.fst last), .int (Prod.snd last)]) ∧ DF K H' hd kh' (kf g) ∧ kh'.map (·.1) = near.map Sum.inl ∧ Fz [hd] H H' ∧ Vd near gb ga Φ g last (ls.drop (i + 1)), rt := Q, bk := tRet (tC (.bl true)) { nx := fun x H' => Q V.non H', rt := Q }, ct := fun σ' H' => ∃ g kh' lt last x5 x6 x7 x8 x10, σ' = [some (.ref l), some (.ref hd), some (.ref bd), some (.ref ad), some (.ref lt), x5, x6, x7, x8, none, x10] ∧ H' lt = some (.tup [.int (Prod.fst last), .int (Prod.snd last)]) ∧ DF K H' hd kh' (kf g) ∧ kh'.map (·.1) = near.map Sum.inl ∧ Fz [hd] H H' ∧ Vd near gb ga Φ g last (ls.drop (i + 1)) }
          [some (.ref l), some (.ref hd), some (.ref bd), some (.ref ad), some (.ref pl), some (.int m), some (.ref t2), some (.ref pl), x8, none, x10'] (upd H6 hd (.dK (putK kh' (.inl m) (.ref p)))) := by
      intro H6 p ws x10' e6 ln hws hwz
      have e26 := e25.trans e6
      have D6 := (D'.ex e26).put (.inl m) ln
      rw [kf_fU] at D6
      have kp6 : Kept H6 (upd H6 hd (.dK (putK kh' (.inl m) (.ref p)))) := .upd (e26 _ _ D'.at_) not_hard_dK
      have Db6 : DF K (upd H6 hd (.dK (putK kh' (.inl m) (.ref p)))) bd kb (kf gb) := (Db'.ex e26).kept kp6 (by rw [upd_ne (Ne.symm ne1)]; exact e26 _ _ Db'.at_)
      have Da6 : DF K (upd H6 hd (.dK (putK kh' (.inl m) (.ref p)))) ad ka (kf ga) := (Da'.ex e26).kept kp6 (by rw [upd_ne (Ne.symm ne2)]; exact e26 _ _ Da'.at_)
      have kk : (putK kh' (.inl m) (.ref p)).map (·.1) = near.map Sum.inl := by rw [keys_old (by rw [nk']; exact List.mem_map.mpr ⟨m, hm, rfl⟩)]; exact nk'
      have gA : fU g m ws = app g (m, un, wi) := by unfold app; rw [hws]
      have okws : AllOk (fU g m ws m) := by
        rw [fU_same, hws]
        cases un with
        | true => exact fun u hu => okg u (List.mem_filter.mp hu).1
        | false => exact fun u hu => (List.mem_append.mp hu).elim (okg u) fun h => by rw [List.mem_singleton.mp h]; exact okw
      refine heard_tail (near := near) D6 Db6 Da6 kk nb na hm okws okb oka (by rw [fU_same]; exact hwz) zb (by rw [gA]; exact hc) fun H7 s e7 => ?_
      have npl : pl ≠ hd := fun e => by have := e6 _ _ (e5 _ _ (e4 _ _ (e3 _ _ h2))); rw [e, e26 _ _ D'.at_] at this; cases this
      refine ⟨fU g m ws, _, pl, (m, uI un), _, _, _, _, _, rfl, e7 _ _ (by rw [upd_ne npl]; exact e6 _ _ (e5 _ _ (e4 _ _ (e3 _ _ h2)))), D6.ex e7, kk, ?_, by rw [gA]; exact vn⟩
      exact f.trans ((Fz.of e26).trans ((Fz.upd (List.mem_singleton.mpr rfl)).trans (.of e7)))
    have zk : kh'.length ≤ 1000 := by
      have := congrArg List.length nk'
      rw [List.length_map, List.length_map] at this
      omega
    refine q_if (b := !un) (et_is (et_test (ev_op (i0 e25 rfl) ev_c (rv_eq rfl))) (kind_want un)) (fun hun H6 e6 => ?_) (fun hun H6 e6 => ?_)
    · have hun2 : un = false := by cases un with | false => rfl | true => cases hun
      have ec : EvL (tOp rCat (tDGet (tVar 1) (tVar 5)) (tLst (tCons (tOp (rIxT K) (tVar 6) (tC (.int 1))) tNil))) [some (.ref l), some (.ref hd), some (.ref bd), some (.ref ad), some (.ref pl), some (.int m), some (.ref t2), some (.ref pl), x8, none, x10] H6 (rs ++ [z]) :=
        el_catN (ev_dget (ev_var rfl) (ev_var rfl) (dget_ex (e25.trans e6) gh1)) (el_lst (ea_cons (i1 (e25.trans e6) rfl) ea_nil) (by show 1 ≤ 100000; decide)) (e6 _ _ hrs) (by rw [wrs.length]; show (g m).length + 1 ≤ _; omega)
      refine ec H6 (Ex.refl _) _ fun p H7 hp e7 h7 => ?_
      refine ⟨_, rfl, _, rfl, hd, _, rfl, DPut.k (k := .inl m) ((e25.trans (e6.trans e7)) _ _ D'.at_) (sz_lt (by omega)), ?_⟩
      refine rest _ (e6.trans e7) ⟨_, h7, ?_⟩ rfl ?_
      · rw [if_neg (by rw [hun2]; decide)]
        unfold WAs
        rw [List.map_append]
        exact (wrs.ex (e6.trans e7)).append (.cons (wz.ex (e25.trans (e6.trans e7))) .nil)
      · rw [if_neg (by rw [hun2]; decide), List.length_append]; show (g m).length + 1 ≤ _; omega
    · have hun2 : un = true := by cases un with | true => rfl | false => cases hun
      obtain ⟨ys, wy, ey⟩ := el_pick (K := K) (H := H6) (σ := [some (.ref l), some (.ref hd), some (.ref bd), some (.ref ad), some (.ref pl), some (.int m), some (.ref t2), some (.ref pl), x8, none, x10]) (tl := tDGet (tVar 1) (tVar 5)) (t := tTest (tOp (rNeD K) (tVar 10) (tOp (rIxT K) (tVar 6) (tC (.int 1))))) (j := 10) (vs := [10]) (fun u => decide (u ≠ wi)) (ev_dget (ev_var rfl) (ev_var rfl) (dget_ex (e25.trans e6) gh1)) (sq_of (e6 _ _ hrs)) (wrs.ex e6) (by omega) (fun _ => rfl) (fun _ => rfl)
        (fun x u H7 e7 hu wu => et_test (ev_op (ev_var rfl) (i1 ((e25.trans e6).trans e7) rfl) (rv_neW wu (wz.ex ((e25.trans e6).trans e7)) (okg u hu) okw)))
      refine ey H6 (Ex.refl _) _ fun p H7 hp e7 h7 => ?_
      refine ⟨_, rfl, _, rfl, hd, _, rfl, DPut.k (k := .inl m) ((e25.trans (e6.trans e7)) _ _ D'.at_) (sz_lt (by omega)), ?_⟩
      refine rest _ (e6.trans e7) ⟨_, h7, ?_⟩ rfl ?_
      · rw [if_pos hun2]
        exact wy.ex e7
      · rw [if_pos hun2]; have := List.length_filter_le (fun u => decide (u ≠ wi)) (g m); omega
  · obtain ⟨g, kh', lt, last, x5, x6, x7, x8, x10, rfl, hlt, D', nk', f, vd'⟩ := p
    rw [lx, List.drop_length] at vd'
    exact s_ret ev_c fun H2 e2 => q H2 g kh' (D'.ex e2) nk' vd' (f.trans (.of e2))
end
end K33
/-! K25: the plain law: what a telling's letters leave heard. -/
namespace K33
open PySem PySem.Spec PyProof.Rows L2 Evl TL
section
variable {near : List Int} {gb ga : Int → List Wish} {Φ : (Int → List Wish) → Prop} {m : Int} {rest : List Let}
theorem vd_wants (hm : m ∈ near) : ∀ (ws : List Wish) (g : Int → List Wish) (last : Int × Int), HT.lexLt [m, 0] [last.1, last.2] = false → ws.Nodup → (∀ u ∈ ws, u ∉ g m) → AllOk ws → AllOk (g m) → (g m).length + ws.length ≤ 900 → (∀ u ∈ gb m, u ∈ ga m → ∃ o ∈ g m, cov o u = true) →
    (∀ g' last', (∀ k, k ≠ m → g' k = g k) → g' m = g m ++ ws → (last' = last ∨ last' = (m, 0)) → Vd near gb ga Φ g' last' rest) → Vd near gb ga Φ g last (ws.map (fun u => (m, false, u)) ++ rest)
  | [], g, last, _, _, _, _, _, _, _, k => k g last (fun _ _ => rfl) (List.append_nil _).symm (.inl rfl)
  | u :: ws, g, last, hl, nd, nin, ok, okg, hz, hc, k => by
    obtain ⟨n1, n2⟩ := List.nodup_cons.mp nd
    rw [List.length_cons] at hz
    have ha : app g (m, false, u) = fU g m (g m ++ [u]) := by unfold app; rw [if_neg (fun h => Bool.false_ne_true h)]
    have hs : app g (m, false, u) m = g m ++ [u] := by rw [ha, fU_same]
    refine ⟨hm, hl, ⟨fun h => absurd h (nin u (List.mem_cons_self ..)), fun h => by cases h⟩, ok u (List.mem_cons_self ..), okg, by show (g m).length ≤ 900; omega, fun x h1 h2 => ?_, ?_⟩
    · obtain ⟨o, h3, h4⟩ := hc x h1 h2
      exact ⟨o, by show o ∈ app g (m, false, u) m; rw [hs]; exact List.mem_append_left _ h3, h4⟩
    · refine vd_wants hm ws _ _ ?_ n2 (fun x hx => ?_) (fun x hx => ok x (List.mem_cons_of_mem _ hx)) ?_ ?_ (fun x h1 h2 => ?_) fun g' last' h1 h2 h3 => k g' last' (fun j hj => ?_) ?_ ?_
      · show HT.lexLt [m, 0] [m, uI false] = false
        rw [HT.lexLt_cons, if_pos rfl]; decide
      · rw [hs]
        intro h
        rcases List.mem_append.mp h with h | h
        · exact nin x (List.mem_cons_of_mem _ hx) h
        · exact n1 (List.mem_singleton.mp h ▸ hx)
      · rw [hs]
        intro x hx
        rcases List.mem_append.mp hx with h | h
        · exact okg x h
        · rw [List.mem_singleton.mp h]; exact ok u (List.mem_cons_self ..)
      · rw [hs, List.length_append]; show (g m).length + 1 + ws.length ≤ 900; omega
      · obtain ⟨o, h3, h4⟩ := hc x h1 h2
        exact ⟨o, by rw [hs]; exact List.mem_append_left _ h3, h4⟩
      · rw [h1 j hj, ha, fU_ne hj]
      · rw [h2, hs, List.append_assoc]; rfl
      · rcases h3 with h | h
        · exact .inr h
        · exact .inr h
theorem vd_unwants (hm : m ∈ near) : ∀ (ws : List Wish) (g : Int → List Wish) (last : Int × Int) (S : List Wish), HT.lexLt [m, 1] [last.1, last.2] = false → ws.Nodup → (∀ u ∈ ws, u ∈ g m) → AllOk (g m) → (g m).length ≤ 900 → (∀ o ∈ S, o ∈ g m ∧ o ∉ ws) → (∀ u ∈ gb m, u ∈ ga m → ∃ o ∈ S, cov o u = true) →
    (∀ g' last', (∀ k, k ≠ m → g' k = g k) → (∀ u, u ∈ g' m ↔ u ∈ g m ∧ u ∉ ws) → ((g m).Nodup → (g' m).Nodup) → (last' = last ∨ last' = (m, 1)) → Vd near gb ga Φ g' last' rest) → Vd near gb ga Φ g last (ws.map (fun u => (m, true, u)) ++ rest)
  | [], g, last, S, _, _, _, _, _, _, _, k => k g last (fun _ _ => rfl) (fun u => by simp) id (.inl rfl)
  | u :: ws, g, last, S, hl, nd, hin, okg, hz, hS, hc, k => by
    obtain ⟨n1, n2⟩ := List.nodup_cons.mp nd
    have ha : app g (m, true, u) = fU g m ((g m).filter fun x => decide (x ≠ u)) := by unfold app; rw [if_pos rfl]
    have hs : app g (m, true, u) m = (g m).filter fun x => decide (x ≠ u) := by rw [ha, fU_same]
    have hmem : ∀ x, x ∈ app g (m, true, u) m ↔ x ∈ g m ∧ x ≠ u := fun x => by rw [hs, List.mem_filter]; simp
    have hS2 : ∀ o ∈ S, o ∈ app g (m, true, u) m := fun o ho => (hmem o).mpr ⟨(hS o ho).1, fun e => (hS o ho).2 (by rw [e]; exact List.mem_cons_self ..)⟩
    refine ⟨hm, hl, ⟨fun _ => rfl, fun _ => hin u (List.mem_cons_self ..)⟩, okg u (hin u (List.mem_cons_self ..)), okg, hz, fun x h1 h2 => ?_, ?_⟩
    · obtain ⟨o, h3, h4⟩ := hc x h1 h2
      exact ⟨o, hS2 o h3, h4⟩
    · refine vd_unwants hm ws _ _ S ?_ n2 (fun x hx => (hmem x).mpr ⟨hin x (List.mem_cons_of_mem _ hx), fun e => n1 (e ▸ hx)⟩) (fun x hx => okg x ((hmem x).mp hx).1) ?_ (fun o ho => ⟨hS2 o ho, fun h => (hS o ho).2 (List.mem_cons_of_mem _ h)⟩) hc fun g' last' h1 h2 h3 h4 => k g' last' (fun j hj => ?_) (fun x => ?_) (fun h => h3 ?_) ?_
      · show HT.lexLt [m, 1] [m, uI true] = false
        rw [HT.lexLt_cons, if_pos rfl]; decide
      · rw [hs]; have := List.length_filter_le (fun x => decide (x ≠ u)) (g m); omega
      · rw [h1 j hj, ha, fU_ne hj]
      · rw [h2 x, hmem x, List.mem_cons]
        constructor
        · rintro ⟨⟨a, b⟩, c⟩; exact ⟨a, fun h => h.elim b c⟩
        · rintro ⟨a, b⟩; exact ⟨⟨a, fun h => b (.inl h)⟩, fun h => b (.inr h)⟩
      · rw [hs]; exact h.filter _
      · rcases h4 with h | h
        · exact .inr h
        · exact .inr h
end
/-- what is asked of a neighbour's lists -/
structure NbOk (gb ga sp sp' : List Wish) : Prop where
  ok : AllOk sp
  ok' : AllOk sp'
  nd : sp.Nodup
  nd' : sp'.Nodup
  z : sp.length ≤ 100
  z' : sp'.length ≤ 100
  over : ∀ u ∈ gb, ∃ o ∈ sp, cov o u = true
  over' : ∀ u ∈ ga, ∃ o ∈ sp', cov o u = true
def Like (g sp : List Wish) : Prop := g.Nodup ∧ ∀ u, u ∈ g ↔ u ∈ sp
theorem Like.len {g sp : List Wish} (h : Like g sp) (nd : sp.Nodup) : g.length = sp.length := ((List.perm_ext_iff_of_nodup h.1 nd).mpr h.2).length_eq
theorem lt_false {m a b : Int} {u : Int} (h : a < m) : HT.lexLt [m, u] [a, b] = false := by
  rw [HT.lexLt_cons, if_neg (by omega)]
  exact decide_eq_false (by omega)
theorem vd_all {near : List Int} {gb ga sp sp' : Int → List Wish} : ∀ (l : List Int) (g : Int → List Wish) (last : Int × Int), l.Pairwise (· < ·) → (∀ m ∈ l, m ∈ near) → (∀ m ∈ l, last.1 < m) → (∀ m ∈ near, NbOk (gb m) (ga m) (sp m) (sp' m)) → (∀ m ∈ l, Like (g m) (sp m)) → (∀ m ∈ near, m ∉ l → Like (g m) (sp' m)) →
    Vd near gb ga (fun g => ∀ m ∈ near, Like (g m) (sp' m)) g last (lets l sp sp')
  | [], g, last, _, _, _, _, _, hd => fun m hm => hd m hm (by simp)
  | m :: l, g, last, pw, hin, hl, nb, hg, hd => by
    obtain ⟨p1, p2⟩ := List.pairwise_cons.mp pw
    have hm := hin m (List.mem_cons_self ..)
    have N := nb m hm
    have G := hg m (List.mem_cons_self ..)
    have gl := G.len N.nd
    have z1 := N.z
    have z2 := N.z'
    have okg : AllOk (g m) := fun u hu => N.ok u ((G.2 u).mp hu)
    show Vd near gb ga _ g last (letsOf sp sp' m ++ lets l sp sp')
    unfold letsOf
    rw [List.append_assoc]
    have lw := List.length_filter_le (fun u => !decide (u ∈ sp m)) (sp' m)
    refine vd_wants hm _ g last (lt_false (hl m (List.mem_cons_self ..))) (N.nd'.filter _) (fun u hu h => ?_) (fun u hu => N.ok' u (List.mem_filter.mp hu).1) okg (by omega) (fun u h1 h2 => ?_) fun g1 last1 q1 q2 q3 => ?_
    · have := (List.mem_filter.mp hu).2
      simp [(G.2 u).mp h] at this
    · obtain ⟨o, h3, h4⟩ := N.over u h1
      exact ⟨o, (G.2 o).mpr h3, h4⟩
    · have hm1 : ∀ u, u ∈ g1 m ↔ u ∈ sp m ∨ u ∈ sp' m := fun u => by
        rw [q2, List.mem_append, G.2 u, List.mem_filter]
        constructor
        · rintro (h | h)
          · exact .inl h
          · exact .inr h.1
        · rintro (h | h)
          · exact .inl h
          · by_cases q : u ∈ sp m
            · exact .inl q
            · exact .inr ⟨h, by simp [q]⟩
      have nd1 : (g1 m).Nodup := by
        rw [q2]
        refine List.nodup_append.mpr ⟨G.1, N.nd'.filter _, fun a ha b hb e => ?_⟩
        have := (List.mem_filter.mp hb).2
        rw [← e] at this
        simp [(G.2 a).mp ha] at this
      have hl1 : last1.1 ≤ m ∧ HT.lexLt [m, 1] [last1.1, last1.2] = false := by
        rcases q3 with h | h
        · have := hl m (List.mem_cons_self ..)
          rw [h]; exact ⟨by omega, lt_false this⟩
        · rw [h]; exact ⟨Int.le_refl _, by rw [HT.lexLt_cons, if_pos rfl]; show HT.lexLt [1] [0] = false; decide⟩
      refine vd_unwants hm _ g1 last1 (sp' m) hl1.2 (N.nd.filter _) (fun u hu => (hm1 u).mpr (.inl (List.mem_filter.mp hu).1)) (fun u hu => ?_) (by rw [q2, List.length_append]; omega) (fun o ho => ⟨(hm1 o).mpr (.inr ho), fun h => ?_⟩) (fun u _ h2 => N.over' u h2) fun g2 last2 r1 r2 r3 r4 => ?_
      · rcases (hm1 u).mp hu with h | h
        · exact N.ok u h
        · exact N.ok' u h
      · have := (List.mem_filter.mp h).2
        simp [ho] at this
      · have L2 : Like (g2 m) (sp' m) := ⟨r3 nd1, fun u => by
          rw [r2 u, hm1 u, List.mem_filter]
          constructor
          · rintro ⟨h1 | h1, h2⟩
            · by_cases q : u ∈ sp' m
              · exact q
              · exact absurd ⟨h1, by simp [q]⟩ h2
            · exact h1
          · intro h
            exact ⟨.inr h, fun q => by have := q.2; simp [h] at this⟩⟩
        refine vd_all l g2 last2 p2 (fun k hk => hin k (List.mem_cons_of_mem _ hk)) (fun k hk => ?_) nb (fun k hk => ?_) (fun k hk hk2 => ?_)
        · have h1 := p1 k hk
          have h2 := hl1.1
          rcases r4 with h | h
          · rw [h]; omega
          · rw [h]; exact h1
        · have ne : k ≠ m := fun e => by have := p1 k hk; omega
          rw [r1 k ne, q1 k ne]
          exact hg k (List.mem_cons_of_mem _ hk)
        · by_cases e : k = m
          · subst e; exact L2
          · rw [r1 k e, q1 k e]
            exact hd k hk fun h => (List.mem_cons.mp h).elim e hk2
theorem lets_self (near : List Int) (sp : Int → List Wish) : lets near sp sp = [] := by
  have h : ∀ m, letsOf sp sp m = [] := fun m => by
    unfold letsOf
    have : (sp m).filter (fun u => !decide (u ∈ sp m)) = [] := List.filter_eq_nil_iff.mpr fun u hu => by simp [hu]
    rw [this]; rfl
  unfold lets
  induction near with
  | nil => rfl
  | cons m r ih => rw [List.flatMap_cons, h m, ih]; rfl
end K33
/-! K26: what holds ahead of each deed. -/
namespace K33
open PySem PySem.Spec PyProof.Rows L2 Evl TL
section
variable {P : Program} {w : World} {K : PySem.W.Frag} {CS CP : Addr} {H H' : Hp} {pl cl : Addr}
/-! ### data that the pile does not touch -/
theorem las_pl (p : PlAt K H pl cl) {a : Addr} {xs : List V} {ws : List Wish} (h : Rd H a (.lst xs)) (was : WAs K H xs ws) : a ≠ pl := fun e => by
  obtain ⟨ns, n1, n2, n3, h1, _⟩ := p
  subst e
  rcases h with h | ⟨o, h⟩
  · rw [h1] at h
    injection h with h; injection h with h
    subst h
    obtain ⟨u, _, wa⟩ := was.get (i := 1) (v := .int n1) rfl
    obtain ⟨_, _, e, _⟩ := wa.ref
    cases e
  · rw [h1] at h; cases h
theorem Fz.st (p : PlAt K H pl cl) (f : Fz [pl] H H') {a : Addr} {xs : List V} (s : SqT K H a xs) : SqT K H' a xs := let ⟨_, h⟩ := p.lst; fz_st h f s
theorem Fz.la (p : PlAt K H pl cl) (f : Fz [pl] H H') {a : Addr} {ws : List Wish} (h : LA K H a ws) : LA K H' a ws := by
  obtain ⟨xs, sq, was⟩ := h
  refine ⟨xs, ?_, WAs.st (fun _ _ => Fz.st p f) was⟩
  rcases sq with h | h
  · have ne := las_pl p h was
    have nm : a ∉ [pl] := fun m => ne (List.mem_singleton.mp m)
    rcases h with h | ⟨o, h⟩
    · exact .inl (.inl (f _ _ h nm))
    · exact .inl (.inr ⟨o, f _ _ h nm⟩)
  · exact .inr h
theorem Fz.ln (p : PlAt K H pl cl) (f : Fz [pl] H H') {a : Addr} {ws : List Wish} (h : LN K H a ws) : LN K H' a ws := by
  obtain ⟨xs, h1, was⟩ := h
  exact ⟨xs, f _ _ h1 (fun m => las_pl p (.inl h1) was (List.mem_singleton.mp m)), WAs.st (fun _ _ => Fz.st p f) was⟩
theorem Fz.df (p : PlAt K H pl cl) (f : Fz [pl] H H') {d : Addr} {kvs : List (Key × V)} {g : Key → List Wish} (D : DF K H d kvs g) : DF K H' d kvs g := by
  obtain ⟨zs, hz⟩ := p.lst
  refine ⟨f _ _ D.at_ (fun m => by have := D.at_; rw [List.mem_singleton.mp m, hz] at this; cases this), D.nd, fun k hk => ?_⟩
  obtain ⟨a, h1, h2⟩ := D.val k hk
  exact ⟨a, h1, Fz.ln p f h2⟩
theorem Fz.dn (p : PlAt K H pl cl) (f : Fz [pl] H H') {d : Addr} {es : NE} (D : DN P w K H d es) : DN P w K H' d es := by
  obtain ⟨zs, hz⟩ := p.lst
  exact ⟨f _ _ D.at_ (fun m => by have := D.at_; rw [List.mem_singleton.mp m, hz] at this; cases this), fun x hx => WAs.st1 (fun _ _ => Fz.st p f) (D.ks x hx), D.nd⟩
theorem Fz.ne {b : Addr} {o : HO} (p : PlAt K H pl cl) (h : H b = some o) (hl : ∀ xs, o ≠ .lst xs) : b ∉ [pl] := fun m => by
  obtain ⟨zs, hz⟩ := p.lst
  rw [List.mem_singleton.mp m, hz] at h
  cases h
  exact hl _ rfl
theorem Fz.sh (p : PlAt K H pl cl) (f : Fz [pl] H H') {sh dl dm : Addr} {ents : Ents} {many : NE} {n : Nat} (S : ShAt P w K CS H sh dl dm ents many n) : ShAt P w K CS H' sh dl dm ents many n :=
  ⟨let ⟨dx, h⟩ := S.ins; ⟨dx, f _ _ h (Fz.ne p h fun _ e => by cases e)⟩, f _ _ S.dk (Fz.ne p S.dk fun _ e => by cases e), fun e he => Fz.dn p f (S.dn e he), Fz.dn p f S.dmN, S.nh, S.na, S.nm, S.ok, S.cn, S.mk', S.bd⟩
theorem Fz.po (p : PlAt K H pl cl) (f : Fz [pl] H H') {A : PAd} {near : List Int} {kvm : List (Key × V)} {ents : Ents} {sp : Int → List Wish} {n : Nat} (S : PoAt P w K CS CP H A near kvm ents sp n) : PoAt P w K CS CP H' A near kvm ents sp n := by
  have nl : A.nl ∉ [pl] := fun m => by
    obtain ⟨ns, n1, n2, n3, h1, _⟩ := p
    have h := S.nr
    rw [List.mem_singleton.mp m, h1] at h
    injection h with h; injection h with h
    cases near with
    | nil => cases h
    | cons a r => injection h with h; cases h
  exact ⟨let ⟨dx, o, h⟩ := S.ins; ⟨dx, o, f _ _ h (Fz.ne p h fun _ e => by cases e)⟩, f _ _ S.nr nl, let ⟨m, h⟩ := S.sha; ⟨m, Fz.sh p f h⟩, f _ _ S.mk' (Fz.ne p S.mk' fun _ e => by cases e), let ⟨k, h1, h2, h3⟩ := S.sdk; ⟨k, f _ _ h1 (Fz.ne p h1 fun _ e => by cases e), h2, fun m hm => let ⟨a, h4, h5⟩ := h3 m hm; ⟨a, h4, Fz.la p f h5⟩⟩, S.spk, S.ne, S.nb, S.kb⟩
end
/-! ### the law's own lists against the shelf -/
def hf (G : Str → List Wish) : Key → List Wish
  | .inr x => G x
  | .inl _ => []
theorem hf_fU (G : Str → List Wish) (x : Str) (ws : List Wish) : fU (hf G) (.inr x) ws = hf (fU G x ws) := by
  funext k
  cases k with
  | inr y =>
    by_cases e : y = x
    · subst e; rw [fU_same]; exact fU_same.symm
    · rw [fU_ne (fun h => e (Sum.inr.inj h))]; exact (fU_ne e).symm
  | inl m => rw [fU_ne (fun h => by cases h)]; rfl
structure Rel (ents : Ents) (hk : List Str) (gh : Str → List Wish) (near : List Int) (gk : Int → List Wish) (n : Nat) : Prop where
  nm : ∀ x ∈ hk, NameOk x
  hm : ∀ x ∈ hk, ∀ u, u ∈ hold ents x ↔ u ∈ gh x
  km : ∀ m ∈ near, ∀ u, u ∈ hold ents (nS m) ↔ u ∈ gk m
  out : ∀ h u, u ∈ hold ents h → h ∈ hk ∨ ∃ m ∈ near, h = nS m
  pos : ∀ m ∈ near, 0 ≤ m
  hn : hk.length ≤ n
  hl : ∀ x ∈ hk, (gh x).length ≤ n
  kl : ∀ m ∈ near, (gk m).length ≤ n
section
variable {ents ents' : Ents} {hk : List Str} {gh : Str → List Wish} {near : List Int} {gk : Int → List Wish} {n : Nat}
theorem Rel.kset (R : Rel ents hk gh near gk n) {m : Int} (hm : m ∈ near) {ws : List Wish} (h1 : ∀ u, u ∈ hold ents' (nS m) ↔ u ∈ ws) (h2 : ∀ h, h ≠ nS m → hold ents' h = hold ents h) (hl : ws.length ≤ n + 1) : Rel ents' hk gh near (fU gk m ws) (n + 1) := by
  refine ⟨R.nm, fun x hx u => ?_, fun k hk2 u => ?_, fun h u hu => ?_, R.pos, by have := R.hn; omega, fun x hx => by have := R.hl x hx; omega, fun k hk2 => ?_⟩
  · rw [h2 x (nS_name (R.pos m hm) (R.nm x hx))]; exact R.hm x hx u
  · by_cases e : k = m
    · subst e; rw [fU_same]; exact h1 u
    · rw [fU_ne e, h2 (nS k) (fun q => e (nS_inj (R.pos k hk2) (R.pos m hm) q))]
      exact R.km k hk2 u
  · by_cases e : h = nS m
    · exact .inr ⟨m, hm, e⟩
    · rw [h2 h e] at hu; exact R.out h u hu
  · by_cases e : k = m
    · subst e; rw [fU_same]; exact hl
    · rw [fU_ne e]; have := R.kl k hk2; omega
theorem Rel.hset (R : Rel ents hk gh near gk n) {x : Str} (hx : x ∈ hk) {ws : List Wish} (h1 : ∀ u, u ∈ hold ents' x ↔ u ∈ ws) (h2 : ∀ h, h ≠ x → hold ents' h = hold ents h) (hl : ws.length ≤ n + 1) : Rel ents' hk (fU gh x ws) near gk (n + 1) := by
  refine ⟨R.nm, fun y hy u => ?_, fun k hk2 u => ?_, fun h u hu => ?_, R.pos, by have := R.hn; omega, fun y hy => ?_, fun k hk2 => by have := R.kl k hk2; omega⟩
  · by_cases e : y = x
    · subst e; rw [fU_same]; exact h1 u
    · rw [fU_ne e, h2 y e]; exact R.hm y hy u
  · rw [h2 (nS k) (fun q => nS_name (R.pos k hk2) (R.nm x hx) q.symm)]
    exact R.km k hk2 u
  · by_cases e : h = x
    · exact .inl (e ▸ hx)
    · rw [h2 h e] at hu; exact R.out h u hu
  · by_cases e : y = x
    · subst e; rw [fU_same]; exact hl
    · rw [fU_ne e]; have := R.hl y hy; omega
theorem Rel.none (R : Rel ents hk gh near gk n) {x : Str} (hx : x ∉ hk) (ok : NameOk x) (u : Wish) : u ∉ hold ents x := fun h => by
  rcases R.out x u h with q | ⟨m, hm, e⟩
  · exact hx q
  · exact nS_name (R.pos m hm) ok e
theorem Rel.come (R : Rel ents hk gh near gk n) {x : Str} (hx : x ∉ hk) (ok : NameOk x) : Rel ents (hk ++ [x]) (fU gh x []) near gk (n + 1) := by
  refine ⟨fun y hy => ?_, fun y hy u => ?_, R.km, fun h u hu => ?_, R.pos, ?_, fun y hy => ?_, fun k hk2 => by have := R.kl k hk2; omega⟩
  · rcases List.mem_append.mp hy with h | h
    · exact R.nm y h
    · rw [List.mem_singleton.mp h]; exact ok
  · by_cases e : y = x
    · subst e; rw [fU_same]
      exact ⟨fun h => absurd h (R.none hx ok u), fun h => by cases h⟩
    · rw [fU_ne e]
      rcases List.mem_append.mp hy with h | h
      · exact R.hm y h u
      · exact absurd (List.mem_singleton.mp h) e
  · exact (R.out h u hu).imp (fun h => List.mem_append_left _ h) id
  · rw [List.length_append]; have := R.hn; show hk.length + 1 ≤ n + 1; omega
  · by_cases e : y = x
    · subst e; rw [fU_same]; exact Nat.zero_le _
    · rw [fU_ne e]
      rcases List.mem_append.mp hy with h | h
      · have := R.hl y h; omega
      · exact absurd (List.mem_singleton.mp h) e
theorem Rel.go (R : Rel ents hk gh near gk n) {x : Str} (hx : x ∈ hk) (h1 : ∀ u, u ∉ hold ents' x) (h2 : ∀ h, h ≠ x → hold ents' h = hold ents h) : Rel ents' (hk.filter fun y => decide (y ≠ x)) gh near gk (n + 1) := by
  have fm : ∀ {y}, y ∈ hk.filter (fun y => decide (y ≠ x)) → y ∈ hk ∧ y ≠ x := fun hy => by
    obtain ⟨a, b⟩ := List.mem_filter.mp hy
    exact ⟨a, of_decide_eq_true b⟩
  refine ⟨fun y hy => R.nm y (fm hy).1, fun y hy u => ?_, fun k hk2 u => ?_, fun h u hu => ?_, R.pos, ?_, fun y hy => by have := R.hl y (fm hy).1; omega, fun k hk2 => by have := R.kl k hk2; omega⟩
  · rw [h2 y (fm hy).2]; exact R.hm y (fm hy).1 u
  · rw [h2 (nS k) (fun q => nS_name (R.pos k hk2) (R.nm x hx) q.symm)]
    exact R.km k hk2 u
  · have ne : h ≠ x := fun e => h1 u (e ▸ hu)
    rw [h2 h ne] at hu
    exact (R.out h u hu).imp (fun q => List.mem_filter.mpr ⟨q, decide_eq_true ne⟩) id
  · have := List.length_filter_le (fun y => decide (y ≠ x)) hk; have := R.hn; omega
theorem Rel.more (R : Rel ents hk gh near gk n) : Rel ents hk gh near gk (n + 1) := ⟨R.nm, R.hm, R.km, R.out, R.pos, by have := R.hn; omega, fun x hx => by have := R.hl x hx; omega, fun m hm => by have := R.kl m hm; omega⟩
end
/-- what holds between deeds -/
structure LI (P : Program) (w : World) (K : PySem.W.Frag) (CS CP : Addr) (H : Hp) (pl cl : Addr) (A : PAd) (near : List Int) (kvm : List (Key × V)) (ents : Ents) (sp : Int → List Wish) (n : Nat) (hd kd : Addr) (kh kk : List (Key × V)) (hk : List Str) (gh : Str → List Wish) (gk : Int → List Wish)
    (na : Addr) (nm : List Str) (wl : Addr) (W : List Wish) : Prop where
  pa : PlAt K H pl cl
  po : PoAt P w K CS CP H A near kvm ents sp n
  st : Stl near ents sp
  sl : ∀ m ∈ near, (sp m).length ≤ n
  Dh : DF K H hd kh (hf gh)
  Dk : DF K H kd kk (kf gk)
  eh : kh.map (·.1) = hk.map Sum.inr
  ek : kk.map (·.1) = near.map Sum.inl
  em : kvm.map (·.1) = hk.map Sum.inr
  rl : Rel ents hk gh near gk n
  hna : H na = some (.lst (nm.map V.str))
  nok : TextsOk nm
  hwl : LN K H wl W
  wok : AllOk W
  wn : W.length = 6
  d1 : hd ∉ Sps A
  d2 : kd ∉ Sps A
  d3 : hd ≠ kd
  pw : near.Pairwise (· < ·)
  ln : 1 ≤ near.length ∧ near.length ≤ 4
section
variable {P : Program} {w : World} {K : PySem.W.Frag} {CS CP : Addr} {H H' : Hp} {pl cl : Addr} {A : PAd} {near : List Int} {kvm : List (Key × V)} {ents : Ents} {sp : Int → List Wish} {n : Nat} {hd kd : Addr} {kh kk : List (Key × V)} {hk : List Str} {gh : Str → List Wish} {gk : Int → List Wish} {na : Addr} {nm : List Str} {wl : Addr} {W : List Wish}
theorem LI.ex (I : LI P w K CS CP H pl cl A near kvm ents sp n hd kd kh kk hk gh gk na nm wl W) (e : Ex H H') : LI P w K CS CP H' pl cl A near kvm ents sp n hd kd kh kk hk gh gk na nm wl W :=
  ⟨I.pa.ex e, I.po.ex e, I.st, I.sl, I.Dh.ex e, I.Dk.ex e, I.eh, I.ek, I.em, I.rl, e _ _ I.hna, I.nok, I.hwl.ex e, I.wok, I.wn, I.d1, I.d2, I.d3, I.pw, I.ln⟩
theorem LI.fz (I : LI P w K CS CP H pl cl A near kvm ents sp n hd kd kh kk hk gh gk na nm wl W) (f : Fz [pl] H H') (p : PlAt K H' pl cl) : LI P w K CS CP H' pl cl A near kvm ents sp n hd kd kh kk hk gh gk na nm wl W :=
  ⟨p, Fz.po I.pa f I.po, I.st, I.sl, Fz.df I.pa f I.Dh, Fz.df I.pa f I.Dk, I.eh, I.ek, I.em, I.rl, f _ _ I.hna (fun m => I.pa.ne I.hna (by rw [List.length_map, I.nok.1]; decide) (List.mem_singleton.mp m)), I.nok, Fz.ln I.pa f I.hwl, I.wok, I.wn, I.d1, I.d2, I.d3, I.pw, I.ln⟩
end
end K33
/-! K27: a deed. -/
namespace K33
open PySem PySem.Spec PyProof.Rows L2 Evl TL
section
variable {P : Program} {w : World} {K : PySem.W.Frag} {mg : Str → Option Value} {base : Heap} {CS CP f : Addr} {fd : FuncData}
section
variable {H H1 H2 : Hp} {pl cl : Addr} {A : PAd} {near : List Int} {kvm kvm' : List (Key × V)} {ents ents' : Ents} {sp sp' : Int → List Wish} {n : Nat} {hd kd : Addr} {kh kk kh' kk' : List (Key × V)} {hk hk' : List Str} {gh gh' : Str → List Wish} {gk gk' : Int → List Wish} {na : Addr} {nm : List Str} {wl : Addr} {W : List Wish}
theorem PoAt.soft (S : PoAt P w K CS CP H A near kvm ents sp n) {x : Addr} {kvs : List (Key × V)} {o : HO} (hx : H x = some (.dK kvs)) (hn : x ∉ Sps A) : PoAt P w K CS CP (upd H x o) A near kvm ents sp n := by
  have k : Kept H (upd H x o) := .upd hx not_hard_dK
  have n1 : A.dl ≠ x := fun e => hn (by rw [← e]; simp [Sps])
  have n2 : A.mk' ≠ x := fun e => hn (by rw [← e]; simp [Sps])
  have n3 : A.sd ≠ x := fun e => hn (by rw [← e]; simp [Sps])
  obtain ⟨dx, ow, hp⟩ := S.ins
  obtain ⟨many, Sh⟩ := S.sha
  obtain ⟨dx2, hs⟩ := Sh.ins
  obtain ⟨ksp, h1, h2, h3⟩ := S.sdk
  have f : Fz [x] H (upd H x o) := .upd (List.mem_singleton.mpr rfl)
  refine ⟨⟨dx, ow, by rw [upd_ne (fun e => by rw [e, hx] at hp; cases hp)]; exact hp⟩, k _ _ S.nr trivial, ⟨many, Sh.fz f fun z hz => ?_⟩, by rw [upd_ne n2]; exact S.mk', ⟨ksp, by rw [upd_ne n3]; exact h1, h2, fun m hm => let ⟨a, h4, h5⟩ := h3 m hm; ⟨a, h4, Kept.la k h5⟩⟩, S.spk, S.ne, S.nb, S.kb⟩
  rw [List.mem_singleton.mp hz]
  exact ⟨Ne.symm n1, fun e => (by rw [← e, hx] at hs; cases hs), _, hx, not_hard_dK, fun φ h => by cases h⟩
theorem LI.after (I : LI P w K CS CP H pl cl A near kvm ents sp n hd kd kh kk hk gh gk na nm wl W) (k1 : Kept H H1) (po1 : PoAt P w K CS CP H1 A near kvm ents sp n) (Dh1 : DF K H1 hd kh' (hf gh')) (Dk1 : DF K H1 kd kk' (kf gk')) (R : Res P w K CS CP H1 H2 A near kvm' ents' sp' (n + 1))
    (eh : kh'.map (·.1) = hk'.map Sum.inr) (ek : kk'.map (·.1) = near.map Sum.inl) (em : kvm'.map (·.1) = hk'.map Sum.inr) (rl : Rel ents' hk' gh' near gk' (n + 1)) : LI P w K CS CP H2 pl cl A near kvm' ents' sp' (n + 1) hd kd kh' kk' hk' gh' gk' na nm wl W := by
  obtain ⟨p2, st, sl, fr⟩ := R
  have k2 : Kept H1 H2 := po1.kept fr
  have k := k1.trans k2
  exact ⟨I.pa.kept k, p2, st, sl, Dh1.kept k2 (fr _ _ Dh1.at_ I.d1 (fun φ h => by cases h)), Dk1.kept k2 (fr _ _ Dk1.at_ I.d2 (fun φ h => by cases h)), eh, ek, em, rl, k _ _ I.hna trivial, I.nok, I.hwl.kept k, I.wok, I.wn, I.d1, I.d2, I.d3, I.pw, I.ln⟩
/-- what the deed leaves, as a wish for the value and the heap -/
def DeedK (P : Program) (w : World) (K : PySem.W.Frag) (CS CP : Addr) (H : Hp) (pl cl : Addr) (A : PAd) (near : List Int) (sp : Int → List Wish) (n : Nat) (hd kd na : Addr) (nm : List Str) (wl : Addr) (W : List Wish) (Q : VK) : Prop :=
  ∀ v H' kvm' ents' sp' kh' kk' hk' gh' gk', LI P w K CS CP H' pl cl A near kvm' ents' sp' (n + 1) hd kd kh' kk' hk' gh' gk' na nm wl W → PrA K H' v (lets near sp sp') → Fr (pl :: hd :: kd :: Sps A) H H' → Q v H'
theorem DeedK.pre {H0 : Hp} {Q : VK} (k : DeedK P w K CS CP H0 pl cl A near sp n hd kd na nm wl W Q) (f : Fr (pl :: hd :: kd :: Sps A) H0 H) : DeedK P w K CS CP H pl cl A near sp n hd kd na nm wl W Q :=
  fun v H' kvm' ents' sp' kh' kk' hk' gh' gk' I p fr => k v H' kvm' ents' sp' kh' kk' hk' gh' gk' I p (f.trans fr)
theorem fr_hd {o : HO} : Fr (pl :: hd :: kd :: Sps A) H (upd H hd o) := .upd (by simp)
theorem fr_kd {o : HO} : Fr (pl :: hd :: kd :: Sps A) H (upd H kd o) := .upd (by simp)
theorem fr_sps (f : Fr (Sps A) H H1) : Fr (pl :: hd :: kd :: Sps A) H H1 := f.mono fun b hb => by simp [hb]
theorem fr_pl (f : Fz [pl] H H1) : Fr (pl :: hd :: kd :: Sps A) H H1 := f.fr.mono fun b hb => by rw [List.mem_singleton.mp hb]; simp
/-- known changed, the letter heard -/
theorem deed_hear {D : Ends} {σ : L2.St} {v : V} {wi : Wish} {m : Int} {un : Bool} {p : Addr} {ws : List Wish} (I : LI P w K CS CP H pl cl A near kvm ents sp n hd kd kh kk hk gh gk na nm wl W) (hn : n < 40) (s1 : σ[1]? = some (some (.ref A.p))) (s6 : σ[6]? = some (some v)) (s9 : σ[9]? = some (some (.int m))) (wa : WA K H v wi) (ok : WOk wi) (hm : m ∈ near)
    (ln : LN K H p ws) (hws : ws = if un = true then (gk m).filter (fun u => decide (u ≠ wi)) else gk m ++ [wi]) (hin : wi ∈ gk m ↔ un = true) (k : DeedK P w K CS CP H pl cl A near sp n hd kd na nm wl W D.rt) :
    tRet (tMeth CP "hear" (spHear P w K CS CP) [] E0 (tVar 1) (tCons (tVar 9) (tCons (tTup (tCons (tC (.str (kindS un))) (tCons (tVar 6) tNil))) tNil))) D σ (upd H kd (.dK (putK kk (.inl m) (.ref p)))) := by
  have k1 : Kept H (upd H kd (.dK (putK kk (.inl m) (.ref p)))) := .upd I.Dk.at_ not_hard_dK
  have D1 := I.Dk.put (.inl m) ln
  rw [kf_fU] at D1
  have po1 : PoAt P w K CS CP (upd H kd (.dK (putK kk (.inl m) (.ref p)))) A near kvm ents sp n := I.po.soft I.Dk.at_ I.d2
  have Dh1 : DF K (upd H kd (.dK (putK kk (.inl m) (.ref p)))) hd kh (hf gh) := I.Dh.kept k1 (by rw [upd_ne I.d3]; exact I.Dh.at_)
  obtain ⟨dx, own, hp⟩ := po1.ins
  refine ⟨_, s1, A.p, dx, _, rfl, hp, rfl, _, s9, _, s6, by show 2 ≤ sizeLine; decide, fun t ht => ?_⟩
  have e2 := Ex.new (o := .tup [.str (kindS un), v]) ht
  have hr := I.rl.km m hm
  have hlen : ws.length ≤ n + 1 := by
    have := I.rl.kl m hm
    rw [hws]
    split
    · have := List.length_filter_le (fun u => decide (u ≠ wi)) (gk m); omega
    · rw [List.length_append]; show (gk m).length + 1 ≤ _; omega
  refine ⟨A, near, kvm, ents, sp, n, m, t, un, v, wi, rfl, po1.ex e2, hn, fun j hj => by have := I.sl j hj; omega, hm, st_of upd_same, (k1.dp wa).ex e2, ok, by rw [hr]; exact hin, fun v2 H2 ents' sp' R h1 h2 pr => ?_⟩
  refine k v2 H2 kvm ents' sp' kh _ hk gh _ (I.after (k1.trans (.of e2)) (po1.ex e2) (Dh1.ex e2) (D1.ex e2) R I.eh ?_ I.em (I.rl.kset hm (fun u => ?_) h2 hlen)) pr ((fr_kd.trans (.of e2)).trans (fr_sps R.2.2.2))
  · rw [keys_old (by rw [I.ek]; exact List.mem_map.mpr ⟨m, hm, rfl⟩)]; exact I.ek
  · rw [h1 u, hr u, hws]
    cases un with
    | true => rw [if_pos rfl, if_pos rfl, List.mem_filter]; simp
    | false => rw [if_neg (fun h => by cases h), if_neg (fun h => by cases h), List.mem_append, List.mem_singleton]
/-- a hand's list changed, the wish told: what both ways share -/
theorem deed_hand {v0 : V} {wi : Wish} {x : Str} {p : Addr} {ws : List Wish} {Q : VK} (I : LI P w K CS CP H pl cl A near kvm ents sp n hd kd kh kk hk gh gk na nm wl W) (hx : x ∈ hk) (ln : LN K H p ws) (hlen : ws.length ≤ n + 1) (k : DeedK P w K CS CP H pl cl A near sp n hd kd na nm wl W Q) :
    PoAt P w K CS CP (upd H hd (.dK (putK kh (.inr x) (.ref p)))) A near kvm ents sp n ∧ Kept H (upd H hd (.dK (putK kh (.inr x) (.ref p)))) ∧ ∀ v2 H2 ents' sp', Res P w K CS CP (upd H hd (.dK (putK kh (.inr x) (.ref p)))) H2 A near kvm ents' sp' (n + 1) → (∀ u, u ∈ hold ents' x ↔ u ∈ ws) → (∀ h, h ≠ x → hold ents' h = hold ents h) → PrA K H2 v2 (lets near sp sp') → Q v2 H2 := by
  have k1 : Kept H (upd H hd (.dK (putK kh (.inr x) (.ref p)))) := .upd I.Dh.at_ not_hard_dK
  have D1 := I.Dh.put (.inr x) ln
  rw [hf_fU] at D1
  have po1 : PoAt P w K CS CP (upd H hd (.dK (putK kh (.inr x) (.ref p)))) A near kvm ents sp n := I.po.soft I.Dh.at_ I.d1
  have Dk1 : DF K (upd H hd (.dK (putK kh (.inr x) (.ref p)))) kd kk (kf gk) := I.Dk.kept k1 (by rw [upd_ne (Ne.symm I.d3)]; exact I.Dk.at_)
  refine ⟨po1, k1, fun v2 H2 ents' sp' R h1 h2 pr => ?_⟩
  refine k v2 H2 kvm ents' sp' _ kk hk _ gk (I.after k1 po1 D1 Dk1 R ?_ I.ek I.em (I.rl.hset hx h1 h2 hlen)) pr (fr_hd.trans (fr_sps R.2.2.2))
  rw [keys_old (by rw [I.eh]; exact List.mem_map.mpr ⟨x, hx, rfl⟩)]; exact I.eh
theorem in_keys {kvs : List (Key × V)} (e : kvs.map (·.1) = hk.map Sum.inr) (x : Str) : (valV kvs (.inr x)).isSome = true ↔ x ∈ hk := by
  rw [valV_isSome, e, List.mem_map]
  exact ⟨fun ⟨y, h, q⟩ => Sum.inr.inj q ▸ h, fun h => ⟨x, h, rfl⟩⟩
theorem keys_filter (x : Str) : (hk.map (Sum.inr : Str → Key)).filter (fun j => decide (j ≠ .inr x)) = (hk.filter fun y => decide (y ≠ x)).map Sum.inr := by
  rw [List.filter_map]
  congr 1
  refine List.filter_congr fun y _ => ?_
  show decide ((Sum.inr y : Key) ≠ Sum.inr x) = decide (y ≠ x)
  exact decide_eq_decide.mpr ⟨fun h e => h (congrArg _ e), fun h e => h (Sum.inr.inj e)⟩
end
theorem q_dputL {td ty te : TE} {tz : TS} {D : Ends} {σ : L2.St} {H : Hp} {xs : List V} (h : EvL te σ H xs) (k : ∀ p H1, H p = none → Ex H H1 → H1 p = some (.lst xs) → td σ H1 fun x H2 => ty σ H2 fun y H3 => ∃ a H4, x = .ref a ∧ DPut H3 a y (.ref p) H4 ∧ tz D σ H4) : tSeq (sDPut td ty te) tz D σ H :=
  h H (Ex.refl H) _ fun p H1 hp e h1 => k p H1 hp e h1
def spDeed (P : Program) (w : World) (K : PySem.W.Frag) (CS CP : Addr) : Sp := fun vs H Q _ => ∃ pl cl A near kvm ents sp n hd kd kh kk hk gh gk na nm wl W, vs = [.ref pl, .ref (PAd.p A), .ref hd, .ref kd, .ref na, .ref wl] ∧ LI P w K CS CP H pl cl A near kvm ents sp n hd kd kh kk hk gh gk na nm wl W ∧ n < 40 ∧ DeedK P w K CS CP H pl cl A near sp n hd kd na nm wl W Q
theorem ok_law_deed (T : Txt K mg CS CP) (c_law_take : Cal P w K mg base "_law_take" 1 ["pile", "many"] (spTk K)) (c_Post_hear : MCal P w K mg base CP "hear" 8 ["self", "neighbour", "letter"] (spHear P w K CS CP) []) (c_Post_come : MCal P w K mg base CP "come" 2 ["self", "hand"] (spCome P w K CS CP) [])
    (c_Post_go : MCal P w K mg base CP "go" 8 ["self", "hand"] (spGo P w K CS CP) []) (c_Post_want : MCal P w K mg base CP "want" 8 ["self", "hand", "wish"] (spWant P w K CS CP) []) (c_Post_unwant : MCal P w K mg base CP "unwant" 8 ["self", "hand", "wish"] (spUnwant P w K CS CP) [])
    (F : FnP K "_law_deed" "_law_deed" s_law_deed f fd) : FnOk P w K mg base CX0 9 f fd ["pile", "post", "hands", "known", "names", "wishes"] (spDeed P w K CS CP) := by
  refine F.ok sc_law_deed (fun vs H Q E h => ?_) (fun cdv A outer s H vs Q E hr h => ?_)
  · obtain ⟨pl, cl, A, near, kvm, ents, sp, n, hd, kd, kh, kk, hk, gh, gk, na, nm, wl, W, rfl, _⟩ := h; rfl
  have hu := hu_of hr
  have hu65 := u65 hr
  refine ⟨_, PSs.nox (pss_cons (ps_set (i := 6) sc_law_deed.nd rfl (Or.inr rfl) (pe_ix (r := rIxL K) ix_list (pv 5) (pe_c c_law_take hr (by decide) rfl (pa_cons (pv 0) (pa_cons pe_int pa_nil))) (fun _ _ => rfl)))
      (pss_cons (ps_set (i := 7) sc_law_deed.nd rfl (Or.inl rfl) (pe_ix (r := rIxL K) ix_list (pv 4) (pe_c c_law_take hr (by decide) rfl (pa_cons (pv 0) (pa_cons pe_int pa_nil))) (fun _ _ => rfl)))
      (pss_cons (ps_set (i := 8) sc_law_deed.nd rfl (Or.inl rfl) (pe_callB (call_sortedDI rfl) (by rfl) T.n_sorted bt_sorted (pa_cons (pv 3) pa_nil)))
      (pss_cons (ps_set (i := 9) sc_law_deed.nd rfl (Or.inl rfl) (pe_ix (r := rIxL K) ix_list (pv 8) (pe_c c_law_take hr (by decide) rfl (pa_cons (pv 0) (pa_cons (pe_callB call_len_seq (by rfl) T.n_len bt_len (pa_cons (pv 8) pa_nil)) pa_nil))) (fun _ _ => rfl)))
      (pss_cons (ps_if (pt_cmpR op_eq (pe_c c_law_take hr (by decide) rfl (pa_cons (pv 0) (pa_cons pe_int pa_nil))) pe_int (nomark _)) (pss_cons (ps_if (pt_cmpR (r := rInD K) (op_inD hu65) (pv 6) (pe_dget hu (pv 3) (pv 9) (fun _ _ => rfl)) (by rfl)) (pss_cons (ps_dput hu (pv 3) (pv 9) (pe_lc (own := [("one", 10)]) (g := gName 10) rfl sc_law_deed.nd (pi_list (pe_dget hu (pv 3) (pv 9) (fun _ _ => rfl))) (blkOk_by (own := [("one", 10)]) (N := ["pile", "post", "hands", "known", "names", "wishes", "wish", "name", "near", "neighbour", "one"]) (sc := defScope s_law_deed) (by decide +kernel)) (fun _ _ _ _ _ => pg_name (i := 10) sc_law_deed.nd rfl (Or.inl rfl)) (fun _ _ _ _ _ => (pts_one (pt_cmpR (r := rNeD K) (op_neD hr.units) (pv 10) (pv 6) (nomark _)))) (fun _ _ _ _ _ => (pv 10))) rfl)
      (pss_one (ps_ret (pe_m c_Post_hear (pv 1) T.clPost hr (by decide) (pa_cons (pv 9) (pa_cons (pe_tup (pa_cons pe_str (pa_cons (pv 6) pa_nil))) pa_nil)))))) pss_nil)
      (pss_cons (ps_dput hu (pv 3) (pv 9) (pe_op op_cat (pe_dget hu (pv 3) (pv 9) (fun _ _ => rfl)) (pe_lst (pa_cons (pv 6) pa_nil))) rfl)
      (pss_one (ps_ret (pe_m c_Post_hear (pv 1) T.clPost hr (by decide) (pa_cons (pv 9) (pa_cons (pe_tup (pa_cons pe_str (pa_cons (pv 6) pa_nil))) pa_nil))))))) pss_nil)
      (pss_cons (ps_if (pt_cmp (pc_dnotin hu (pv 7) (pv 2))) (pss_cons (ps_dput hu (pv 2) (pv 7) (pe_lst pa_nil) rfl)
      (pss_one (ps_ret (pe_m c_Post_come (pv 1) T.clPost hr (by decide) (pa_cons (pv 7) pa_nil))))) pss_nil)
      (pss_cons (ps_if (pt_cmpR op_eq (pe_c c_law_take hr (by decide) rfl (pa_cons (pv 0) (pa_cons pe_int pa_nil))) pe_int (nomark _)) (pss_cons (ps_expr (pe_dpop1 (pv 2) (pv 7) ⟨rfl, rfl, rfl, rfl⟩))
      (pss_one (ps_ret (pe_m c_Post_go (pv 1) T.clPost hr (by decide) (pa_cons (pv 7) pa_nil))))) pss_nil)
      (pss_cons (ps_if (pt_cmpR (r := rInD K) (op_inD hu65) (pv 6) (pe_dget hu (pv 2) (pv 7) (fun _ _ => rfl)) (by rfl)) (pss_cons (ps_dput hu (pv 2) (pv 7) (pe_lc (own := [("one", 10)]) (g := gName 10) rfl sc_law_deed.nd (pi_list (pe_dget hu (pv 2) (pv 7) (fun _ _ => rfl))) (blkOk_by (own := [("one", 10)]) (N := ["pile", "post", "hands", "known", "names", "wishes", "wish", "name", "near", "neighbour", "one"]) (sc := defScope s_law_deed) (by decide +kernel)) (fun _ _ _ _ _ => pg_name (i := 10) sc_law_deed.nd rfl (Or.inl rfl)) (fun _ _ _ _ _ => (pts_one (pt_cmpR (r := rNeD K) (op_neD hr.units) (pv 10) (pv 6) (nomark _)))) (fun _ _ _ _ _ => (pv 10))) rfl)
      (pss_one (ps_ret (pe_m c_Post_unwant (pv 1) T.clPost hr (by decide) (pa_cons (pv 7) (pa_cons (pv 6) pa_nil)))))) pss_nil)
      (pss_cons (ps_dput hu (pv 2) (pv 7) (pe_op op_cat (pe_dget hu (pv 2) (pv 7) (fun _ _ => rfl)) (pe_lst (pa_cons (pv 6) pa_nil))) rfl)
      (pss_one (ps_ret (pe_m c_Post_want (pv 1) T.clPost hr (by decide) (pa_cons (pv 7) (pa_cons (pv 6) pa_nil)))))))))))))), ?_⟩
  obtain ⟨pl, cl, A, near, kvm, ents, sp, n, hd, kd, kh, kk, hk, gh, gk, na, nm, wl, W, rfl, I, hn, q⟩ := h
  refine ⟨_, rfl, _, rfl, pl, cl, 6, rfl, I.pa, by decide, by decide, fun r1 H1 r10 r11 p1 f1 => ?_⟩
  have I1 := I.fz f1 p1
  obtain ⟨rs, hrs, was⟩ := I1.hwl
  obtain ⟨v, hv, hv2⟩ := atI_ex r10 (by rw [was.length, I.wn]; exact r11)
  obtain ⟨wi, hwi, wa1⟩ := was.get hv2
  have okw : WOk wi := I.wok wi (List.mem_of_getElem? hwi)
  refine ⟨wl, rs, r1, v, rfl, rfl, sq_of hrs, hv, ?_⟩
  refine ⟨_, rfl, _, rfl, pl, cl, 3, rfl, p1, by decide, by decide, fun r2 H2 r20 r21 p2 f2 => ?_⟩
  have I2 := I1.fz f2 p2
  have wa2 : WA K H2 v wi := WAs.st1 (fun _ _ => Fz.st p1 f2) wa1
  obtain ⟨xv, hx, hx2⟩ := atI_ex (xs := nm.map V.str) r20 (by rw [List.length_map, I.nok.1]; exact r21)
  rw [List.getElem?_map] at hx2
  obtain ⟨x, hx3, rfl⟩ := Option.map_eq_some_iff.mp hx2
  have okx : NameOk x := I.nok.2.2 x (List.mem_of_getElem? hx3)
  refine ⟨na, _, r2, _, rfl, rfl, sq_of I2.hna, hx, ?_⟩
  refine ⟨_, rfl, kd, kk, near, rfl, .inl I2.Dk.at_, I2.ek, by have := I.ln.2; omega, fun ys pn pm hs hp => ?_⟩
  have e3 := Ex.new (o := .lst (ys.map V.int)) hp
  have I3 := I2.ex e3
  have h3 : upd H2 pn (.lst (ys.map V.int)) pn = some (.lst (ys.map V.int)) := upd_same
  obtain ⟨npn, _⟩ := I2.pa.new hp
  have wa3 := wa2.ex e3
  dsimp only
  generalize upd H2 pn (.lst (ys.map V.int)) = H3 at e3 I3 h3 wa3 ⊢
  have hyl := pm.length_eq
  refine ⟨_, rfl, _, rfl, _, rfl, pn, _, rfl, .inl (sq_of h3), pl, cl, _, rfl, I3.pa, by rw [List.length_map]; have := I.ln.1; omega, by rw [List.length_map]; have := I.ln.2; omega, fun r4 H4 r40 r41 p4 f4 => ?_⟩
  have I4 := I3.fz f4 p4
  have wa4 : WA K H4 v wi := WAs.st1 (fun _ _ => Fz.st I3.pa f4) wa3
  have h4 := f4 _ _ h3 (fun m => npn (List.mem_singleton.mp m))
  obtain ⟨mv, hm, hm2⟩ := atI_ex (xs := ys.map V.int) r40 r41
  rw [List.getElem?_map] at hm2
  obtain ⟨m, hm3, rfl⟩ := Option.map_eq_some_iff.mp hm2
  have hmn : m ∈ near := pm.mem_iff.mp (List.mem_of_getElem? hm3)
  refine ⟨pn, _, r4, _, rfl, rfl, sq_of h4, hm, ?_⟩
  refine ⟨_, rfl, pl, cl, 2, rfl, p4, by decide, by decide, fun r5 H5 r50 r51 p5 f5 => ⟨rfl, _, rfl, ?_⟩⟩
  have I5 := I4.fz f5 p5
  have wa5 : WA K H5 v wi := WAs.st1 (fun _ _ => Fz.st p4 f5) wa4
  have f05 : Fr (pl :: hd :: kd :: Sps A) H H5 := fr_pl (f1.trans (f2.trans ((Fz.of e3).trans (f4.trans f5))))
  have q5 := q.pre f05
  clear q
  obtain ⟨ah, gk1, lk⟩ := I5.Dk.get I5.ek hmn
  have okk : AllOk (gk m) := fun u hu => by
    obtain ⟨many, Sh⟩ := I5.po.sha
    exact Sh.hok _ u ((I5.rl.km m hmn u).mpr hu)
  have zkk : kk.length ≤ 100 := by
    have := congrArg List.length I5.ek
    rw [List.length_map, List.length_map] at this
    have := I.ln.2; omega
  have zkh : kh.length ≤ 100 := by
    have := congrArg List.length I5.eh
    rw [List.length_map, List.length_map] at this
    have := I5.rl.hn; omega
  dsimp only
  by_cases c5 : V.int r5 = V.int 0
  · rw [if_pos (decide_eq_true c5)]
    refine q_when (b := decide (wi ∈ gk m)) (et_test (ev_op (ev_var rfl) (ev_dget (ev_var rfl) (ev_var rfl) gk1) (rv_inW wa5 lk.la okw okk))) (fun hb H6 e6 => ?_) (fun hb H6 e6 => ?_)
    · have I6 := I5.ex e6
      obtain ⟨rs6, h6, was6⟩ := lk.ex e6
      obtain ⟨zs, wz, ez⟩ := el_pick (K := K) (H := H6) (σ := [some (.ref pl), some (.ref A.p), some (.ref hd), some (.ref kd), some (.ref na), some (.ref wl), some v, some (.str x), some (.ref pn), some (.int m), none]) (tl := tDGet (tVar 3) (tVar 9)) (t := tTest (tOp (rNeD K) (tVar 10) (tVar 6))) (j := 10) (vs := [10]) (fun u => decide (u ≠ wi)) (ev_dget (ev_var rfl) (ev_var rfl) (dget_ex e6 gk1)) (sq_of h6) was6 (by have := I5.rl.kl m hmn; omega) (fun _ => rfl) (fun _ => rfl)
        (fun y u H7 e7 hu wu => et_test (ev_op (ev_var rfl) (ev_var rfl) (rv_neW wu (wa5.ex (e6.trans e7)) (okk u hu) okw)))
      refine q_dputL ez fun p H7 hp7 e7 h7 => ?_
      refine ⟨_, rfl, _, rfl, kd, _, rfl, DPut.k (k := .inl m) ((e6.trans e7) _ _ I5.Dk.at_) (sz_lt (by omega)), ?_⟩
      exact deed_hear (un := true) (I6.ex e7) hn rfl rfl rfl (wa5.ex (e6.trans e7)) okw hmn ⟨zs, h7, wz.ex e7⟩ rfl ⟨fun _ => rfl, fun _ => of_decide_eq_true hb⟩ (q5.pre (.of (e6.trans e7)))
    · have I6 := I5.ex e6
      obtain ⟨rs6, h6, was6⟩ := lk.ex e6
      have ec : EvL (tOp rCat (tDGet (tVar 3) (tVar 9)) (tLst (tCons (tVar 6) tNil))) [some (.ref pl), some (.ref A.p), some (.ref hd), some (.ref kd), some (.ref na), some (.ref wl), some v, some (.str x), some (.ref pn), some (.int m), none] H6 (rs6 ++ [v]) :=
        el_catN (ev_dget (ev_var rfl) (ev_var rfl) (dget_ex e6 gk1)) (el_lst (ea_cons (ev_var rfl) ea_nil) (by show 1 ≤ 100000; decide)) h6 (by rw [was6.length]; have := I5.rl.kl m hmn; show (gk m).length + 1 ≤ _; omega)
      refine q_dputL ec fun p H7 hp7 e7 h7 => ?_
      refine ⟨_, rfl, _, rfl, kd, _, rfl, DPut.k (k := .inl m) ((e6.trans e7) _ _ I5.Dk.at_) (sz_lt (by omega)), ?_⟩
      have ln7 : LN K H7 p (gk m ++ [wi]) := ⟨_, h7, by unfold WAs; rw [List.map_append]; exact (was6.ex e7).append (.cons (wa5.ex (e6.trans e7)) .nil)⟩
      exact deed_hear (un := false) (I6.ex e7) hn rfl rfl rfl (wa5.ex (e6.trans e7)) okw hmn ln7 rfl ⟨fun h => absurd h (of_decide_eq_false hb), fun h => by cases h⟩ (q5.pre (.of (e6.trans e7)))
  · rw [if_neg (fun h => c5 (of_decide_eq_true h))]
    refine q_when (et_B (ev_dnin (ev_var rfl) (ev_var rfl) (DGet.k (k := .inr x) I5.Dh.at_))) (fun hb H6 e6 => ?_) (fun hb H6 e6 => ?_)
    · -- come
      have hxk : x ∉ hk := fun h => by rw [(in_keys I5.eh x).mpr h] at hb; cases hb
      have I6 := I5.ex e6
      refine ⟨by show 0 ≤ sizeLine; decide, fun p hp7 => ⟨_, rfl, _, rfl, hd, _, rfl, DPut.k (k := .inr x) ((e6.trans (Ex.new hp7)) _ _ I5.Dh.at_) (sz_lt (by omega)), ?_⟩⟩
      have e7 := Ex.new (o := .lst []) hp7
      have I7 := I6.ex e7
      have ln7 : LN K (upd H6 p (.lst [])) p [] := ⟨[], upd_same, .nil⟩
      have q7 := q5.pre (.of (e6.trans e7))
      dsimp only
      generalize upd H6 p (.lst []) = H7 at e7 I7 ln7 q7 ⊢
      have k1 : Kept H7 (upd H7 hd (.dK (putK kh (.inr x) (.ref p)))) := .upd I7.Dh.at_ not_hard_dK
      have D1 := I7.Dh.put (.inr x) ln7
      rw [hf_fU] at D1
      have po1 : PoAt P w K CS CP (upd H7 hd (.dK (putK kh (.inr x) (.ref p)))) A near kvm ents sp n := I7.po.soft I7.Dh.at_ I7.d1
      have Dk1 : DF K (upd H7 hd (.dK (putK kh (.inr x) (.ref p)))) kd kk (kf gk) := I7.Dk.kept k1 (by rw [upd_ne (Ne.symm I7.d3)]; exact I7.Dk.at_)
      obtain ⟨dx, own, hpo⟩ := po1.ins
      have vkm : valV kvm (.inr x) = none := by
        cases e : valV kvm (.inr x) with
        | none => rfl
        | some u => exact absurd ((in_keys I7.em x).mp (by rw [e]; rfl)) hxk
      have nkh : ¬ (Sum.inr x : Key) ∈ kh.map (·.1) := by rw [I7.eh]; exact fun h => hxk (by obtain ⟨y, h1, h2⟩ := List.mem_map.mp h; exact Sum.inr.inj h2 ▸ h1)
      have nkm : ¬ (Sum.inr x : Key) ∈ kvm.map (·.1) := by rw [I7.em]; exact fun h => hxk (by obtain ⟨y, h1, h2⟩ := List.mem_map.mp h; exact Sum.inr.inj h2 ▸ h1)
      have zkm : kvm.length < 1000 := by
        have := congrArg List.length I7.em
        rw [List.length_map, List.length_map] at this
        have := I7.rl.hn; omega
      refine ⟨_, rfl, A.p, dx, _, rfl, hpo, rfl, _, rfl, A, near, kvm, ents, sp, n, x, rfl, po1, okx, vkm, zkm, fun v2 H8 d po2 pr fr => ?_⟩
      have R : Res P w K CS CP (upd H7 hd (.dK (putK kh (.inr x) (.ref p)))) H8 A near (putK kvm (.inr x) (.ref d)) ents sp (n + 1) := ⟨po2.mono (by omega), I7.st, fun j hj => by have := I7.sl j hj; omega, fr⟩
      refine q7 v2 H8 _ ents sp _ kk (hk ++ [x]) _ gk (I7.after k1 po1 D1 Dk1 R ?_ I7.ek ?_ (I7.rl.come hxk okx)) (by rw [lets_self]; exact pr) (fr_hd.trans (fr_sps fr))
      · rw [keys_new nkh, I7.eh, List.map_append]; rfl
      · rw [keys_new nkm, I7.em, List.map_append]; rfl
    · have hxk : x ∈ hk := (in_keys I5.eh x).mp (by simpa using hb)
      have I6 := I5.ex e6
      have wa6 := wa5.ex e6
      have q6 := q5.pre (.of e6)
      obtain ⟨vm, hvm⟩ := Option.isSome_iff_exists.mp ((in_keys I6.em x).mpr hxk)
      obtain ⟨vh, hvh⟩ := Option.isSome_iff_exists.mp ((in_keys I6.eh x).mpr hxk)
      refine ⟨_, rfl, pl, cl, 6, rfl, I6.pa, by decide, by decide, fun r7 H7 r70 r71 p7 f7 => ⟨rfl, _, rfl, ?_⟩⟩
      have I7 := I6.fz f7 p7
      have wa7 : WA K H7 v wi := WAs.st1 (fun _ _ => Fz.st I6.pa f7) wa6
      have q7 := q6.pre (fr_pl f7)
      dsimp only
      by_cases c7 : V.int r7 = V.int 0
      · -- go
        rw [if_pos (decide_eq_true c7)]
        refine ⟨_, rfl, hd, rfl, .inl ⟨_, .inl I7.Dh.at_⟩, _, rfl, kh, .inr x, vh, I7.Dh.at_, rfl, hvh, ?_⟩
        have k1 : Kept H7 (upd H7 hd (.dK (dropK kh (.inr x)))) := .upd I7.Dh.at_ not_hard_dK
        have D1 := I7.Dh.drop (.inr x)
        have po1 : PoAt P w K CS CP (upd H7 hd (.dK (dropK kh (.inr x)))) A near kvm ents sp n := I7.po.soft I7.Dh.at_ I7.d1
        have Dk1 : DF K (upd H7 hd (.dK (dropK kh (.inr x)))) kd kk (kf gk) := I7.Dk.kept k1 (by rw [upd_ne (Ne.symm I7.d3)]; exact I7.Dk.at_)
        obtain ⟨dx, own, hpo⟩ := po1.ins
        refine ⟨_, rfl, A.p, dx, _, rfl, hpo, rfl, _, rfl, A, near, kvm, ents, sp, n, x, vm, rfl, po1, hn, fun j hj => by have := I7.sl j hj; omega, okx, hvm, fun v2 H8 ents' sp' R h1 h2 pr => ?_⟩
        refine q7 v2 H8 _ ents' sp' _ kk (hk.filter fun y => decide (y ≠ x)) gh gk (I7.after k1 po1 D1 Dk1 R ?_ I7.ek ?_ (I7.rl.go hxk h1 h2)) pr (fr_hd.trans (fr_sps R.2.2.2))
        · rw [keys_dropK, I7.eh, keys_filter]
        · rw [keys_dropK, I7.em, keys_filter]
      · rw [if_neg (fun h => c7 (of_decide_eq_true h))]
        have hnk : (Sum.inr x : Key) ∈ kh.map (·.1) := by rw [I7.eh]; exact List.mem_map.mpr ⟨x, hxk, rfl⟩
        obtain ⟨ah2, hah, lh⟩ := I7.Dh.val _ hnk
        have lh : LN K H7 ah2 (gh x) := lh
        have gh1 : DGet H7 hd (.str x) (some (.ref ah2)) := by rw [← hah]; exact DGet.k (k := .inr x) I7.Dh.at_
        have okh : AllOk (gh x) := fun u hu => by
          obtain ⟨many, Sh⟩ := I7.po.sha
          exact Sh.hok _ u ((I7.rl.hm x hxk u).mpr hu)
        have zh := I7.rl.hl x hxk
        refine q_when (b := decide (wi ∈ gh x)) (et_test (ev_op (ev_var rfl) (ev_dget (ev_var rfl) (ev_var rfl) gh1) (rv_inW wa7 lh.la okw okh))) (fun hb H8 e8 => ?_) (fun hb H8 e8 => ?_)
        · have I8 := I7.ex e8
          obtain ⟨rs8, h8, was8⟩ := lh.ex e8
          obtain ⟨zs, wz, ez⟩ := el_pick (K := K) (H := H8) (σ := [some (.ref pl), some (.ref A.p), some (.ref hd), some (.ref kd), some (.ref na), some (.ref wl), some v, some (.str x), some (.ref pn), some (.int m), none]) (tl := tDGet (tVar 2) (tVar 7)) (t := tTest (tOp (rNeD K) (tVar 10) (tVar 6))) (j := 10) (vs := [10]) (fun u => decide (u ≠ wi)) (ev_dget (ev_var rfl) (ev_var rfl) (dget_ex e8 gh1)) (sq_of h8) was8 (by omega) (fun _ => rfl) (fun _ => rfl)
            (fun y u H9 e9 hu wu => et_test (ev_op (ev_var rfl) (ev_var rfl) (rv_neW wu (wa7.ex (e8.trans e9)) (okh u hu) okw)))
          refine q_dputL ez fun p H9 hp9 e9 h9 => ?_
          refine ⟨_, rfl, _, rfl, hd, _, rfl, DPut.k (k := .inr x) ((e8.trans e9) _ _ I7.Dh.at_) (sz_lt (by omega)), ?_⟩
          have I9 := I8.ex e9
          have lf := List.length_filter_le (fun u => decide (u ≠ wi)) (gh x)
          obtain ⟨po9, k9, fin⟩ := deed_hand (v0 := .non) (wi := wi) I9 hxk ⟨zs, h9, wz.ex e9⟩ (by omega) (q7.pre (.of (e8.trans e9)))
          obtain ⟨dx, own, hpo⟩ := po9.ins
          exact ⟨_, rfl, A.p, dx, _, rfl, hpo, rfl, _, rfl, _, rfl, A, near, kvm, ents, sp, n, x, v, wi, vm, rfl, po9, hn, fun j hj => by have := I9.sl j hj; omega, okx, hvm, k9.dp (wa7.ex (e8.trans e9)), okw, (I9.rl.hm x hxk wi).mpr (of_decide_eq_true hb), fun v2 H10 ents' sp' R h1 h2 pr => fin v2 H10 ents' sp' R (fun u => by rw [h1 u, I9.rl.hm x hxk u, List.mem_filter]; simp) h2 pr⟩
        · have I8 := I7.ex e8
          obtain ⟨rs8, h8, was8⟩ := lh.ex e8
          have ec : EvL (tOp rCat (tDGet (tVar 2) (tVar 7)) (tLst (tCons (tVar 6) tNil))) [some (.ref pl), some (.ref A.p), some (.ref hd), some (.ref kd), some (.ref na), some (.ref wl), some v, some (.str x), some (.ref pn), some (.int m), none] H8 (rs8 ++ [v]) :=
            el_catN (ev_dget (ev_var rfl) (ev_var rfl) (dget_ex e8 gh1)) (el_lst (ea_cons (ev_var rfl) ea_nil) (by show 1 ≤ 100000; decide)) h8 (by rw [was8.length]; show (gh x).length + 1 ≤ _; omega)
          refine q_dputL ec fun p H9 hp9 e9 h9 => ?_
          refine ⟨_, rfl, _, rfl, hd, _, rfl, DPut.k (k := .inr x) ((e8.trans e9) _ _ I7.Dh.at_) (sz_lt (by omega)), ?_⟩
          have I9 := I8.ex e9
          have ln9 : LN K H9 p (gh x ++ [wi]) := ⟨_, h9, by unfold WAs; rw [List.map_append]; exact (was8.ex e9).append (.cons (wa7.ex (e8.trans e9)) .nil)⟩
          obtain ⟨po9, k9, fin⟩ := deed_hand (v0 := .non) (wi := wi) I9 hxk ln9 (by rw [List.length_append]; show (gh x).length + 1 ≤ _; omega) (q7.pre (.of (e8.trans e9)))
          obtain ⟨dx, own, hpo⟩ := po9.ins
          exact ⟨_, rfl, A.p, dx, _, rfl, hpo, rfl, _, rfl, _, rfl, A, near, kvm, ents, sp, n, x, v, wi, vm, rfl, po9, hn, fun j hj => by have := I9.sl j hj; omega, okx, hvm, k9.dp (wa7.ex (e8.trans e9)), okw, (fun h => absurd ((I9.rl.hm x hxk wi).mp h) (of_decide_eq_false hb)), fun v2 H10 ents' sp' R h1 h2 pr => fin v2 H10 ents' sp' R (fun u => by rw [h1 u, I9.rl.hm x hxk u, List.mem_append, List.mem_singleton]) h2 pr⟩
end
end K33
/-! K28: what a turn of the law asks, in plain words. -/
namespace K33
open PySem PySem.Spec PyProof.Rows L2 Evl TL
/-- what the law reckons as wanted beside m -/
def GA (kh kk : List (Key × V)) (gh : Str → List Wish) (gk : Int → List Wish) (m : Int) : List Wish := (kh.map (·.1)).flatMap (hf gh) ++ ((kk.map (·.1)).filter fun k => decide (k ≠ .inl m)).flatMap (kf gk)
theorem fU_self {α : Type} [DecidableEq α] (g : α → List Wish) (k : α) : fU g k (g k) = g := by
  funext j
  by_cases e : j = k
  · subst e; exact fU_same
  · exact fU_ne e
theorem flat_len {α : Type} {f : α → List Wish} {n : Nat} : ∀ {l : List α}, (∀ x ∈ l, (f x).length ≤ n) → (l.flatMap f).length ≤ l.length * n
  | [], _ => Nat.zero_le _
  | a :: r, h => by
    rw [List.flatMap_cons, List.length_append, List.length_cons, Nat.succ_mul]
    have := h a (List.mem_cons_self ..)
    have := flat_len (l := r) fun x hx => h x (List.mem_cons_of_mem _ hx)
    omega
section
variable {ents : Ents} {hk : List Str} {gh : Str → List Wish} {near : List Int} {gk : Int → List Wish} {n : Nat} {kh kk : List (Key × V)}
theorem ga_mem (R : Rel ents hk gh near gk n) (nd : (ents.map (·.1)).Nodup) (eh : kh.map (·.1) = hk.map Sum.inr) (ek : kk.map (·.1) = near.map Sum.inl) {m : Int} (hm : m ∈ near) (u : Wish) : u ∈ GA kh kk gh gk m ↔ u ∈ oth ents (nS m) := by
  unfold GA
  rw [eh, ek, List.mem_append, oth_mem nd, List.mem_flatMap, List.mem_flatMap]
  constructor
  · rintro (⟨k, hk1, hu⟩ | ⟨k, hk1, hu⟩)
    · obtain ⟨x, hx, rfl⟩ := List.mem_map.mp hk1
      exact ⟨x, nS_name (R.pos m hm) (R.nm x hx), (R.hm x hx u).mpr hu⟩
    · obtain ⟨h1, h2⟩ := List.mem_filter.mp hk1
      obtain ⟨j, hj, rfl⟩ := List.mem_map.mp h1
      exact ⟨nS j, fun e => of_decide_eq_true h2 (congrArg _ (nS_inj (R.pos j hj) (R.pos m hm) e)), (R.km j hj u).mpr hu⟩
  · rintro ⟨h, ne, hu⟩
    rcases R.out h u hu with q | ⟨j, hj, e⟩
    · exact .inl ⟨.inr h, List.mem_map.mpr ⟨h, q, rfl⟩, (R.hm h q u).mp hu⟩
    · subst e
      exact .inr ⟨.inl j, List.mem_filter.mpr ⟨List.mem_map.mpr ⟨j, hj, rfl⟩, decide_eq_true fun e => ne (by rw [Sum.inl.inj e])⟩, (R.km j hj u).mp hu⟩
theorem ga_len (R : Rel ents hk gh near gk n) (hn : n ≤ 40) (ln : near.length ≤ 4) (eh : kh.map (·.1) = hk.map Sum.inr) (ek : kk.map (·.1) = near.map Sum.inl) : ((kh.map (·.1)).flatMap (hf gh)).length ≤ 1600 ∧ ((kk.map (·.1)).flatMap (kf gk)).length ≤ 160 := by
  rw [eh, ek]
  refine ⟨?_, ?_⟩
  · have := flat_len (f := hf gh) (n := 40) (l := hk.map (Sum.inr : Str → Key)) fun k hk1 => by
      obtain ⟨x, hx, rfl⟩ := List.mem_map.mp hk1
      have := R.hl x hx
      show (gh x).length ≤ 40; omega
    rw [List.length_map] at this
    have h2 : hk.length * 40 ≤ 40 * 40 := Nat.mul_le_mul_right _ (by have := R.hn; omega)
    omega
  · have := flat_len (f := kf gk) (n := 40) (l := near.map (Sum.inl : Int → Key)) fun k hk1 => by
      obtain ⟨x, hx, rfl⟩ := List.mem_map.mp hk1
      have := R.kl x hx
      show (gk x).length ≤ 40; omega
    rw [List.length_map] at this
    have h2 : near.length * 40 ≤ 4 * 40 := Nat.mul_le_mul_right _ ln
    omega
end
section
variable {P : Program} {w : World} {K : PySem.W.Frag} {CS CP : Addr} {H H' : Hp} {pl cl : Addr} {A : PAd} {near : List Int} {kvm : List (Key × V)} {ents : Ents} {sp : Int → List Wish} {n : Nat} {hd kd : Addr} {kh kk : List (Key × V)} {hk : List Str} {gh : Str → List Wish} {gk : Int → List Wish} {na : Addr} {nm : List Str} {wl : Addr} {W : List Wish}
/-- a dict of the law beside the deed's own things -/
def Out (A : PAd) (hd kd x : Addr) : Prop := x ∉ Sps A ∧ x ≠ hd ∧ x ≠ kd
theorem LI.soft (I : LI P w K CS CP H pl cl A near kvm ents sp n hd kd kh kk hk gh gk na nm wl W) : ∀ b ∈ hd :: kd :: Sps A, ∃ kvs, H b = some (.dK kvs) := fun b hb => by
  obtain ⟨many, Sh⟩ := I.po.sha
  obtain ⟨ksp, hs, _⟩ := I.po.sdk
  simp only [Sps, List.mem_cons, List.not_mem_nil, or_false] at hb
  rcases hb with h | h | h | h | h <;> subst h
  · exact ⟨_, I.Dh.at_⟩
  · exact ⟨_, I.Dk.at_⟩
  · exact ⟨_, Sh.dk⟩
  · exact ⟨_, I.po.mk'⟩
  · exact ⟨_, hs⟩
theorem LI.new (I : LI P w K CS CP H pl cl A near kvm ents sp n hd kd kh kk hk gh gk na nm wl W) {x : Addr} (h : H x = none) : Out A hd kd x := by
  have f : x ∉ hd :: kd :: Sps A := fun m => by
    obtain ⟨kvs, e⟩ := I.soft x m
    rw [h] at e; cases e
  exact ⟨fun m => f (List.mem_cons_of_mem _ (List.mem_cons_of_mem _ m)), fun e => f (by rw [e]; exact List.mem_cons_self ..), fun e => f (by rw [e]; exact List.mem_cons_of_mem _ (List.mem_cons_self ..))⟩
/-- a dict of the law changes -/
theorem LI.fs (I : LI P w K CS CP H pl cl A near kvm ents sp n hd kd kh kk hk gh gk na nm wl W) {x : Addr} {kvs : List (Key × V)} (f : Fz [x] H H') (hx : H x = some (.dK kvs)) (o : Out A hd kd x) : LI P w K CS CP H' pl cl A near kvm ents sp n hd kd kh kk hk gh gk na nm wl W := by
  have k : Kept H H' := f.kept fun b hb => by rw [List.mem_singleton.mp hb]; exact ⟨_, hx, not_hard_dK⟩
  have nx : ∀ {b}, b ≠ x → b ∉ [x] := fun h m => h (List.mem_singleton.mp m)
  have S := I.po
  have n1 : A.dl ≠ x := fun e => o.1 (by rw [← e]; simp [Sps])
  have n2 : A.mk' ≠ x := fun e => o.1 (by rw [← e]; simp [Sps])
  have n3 : A.sd ≠ x := fun e => o.1 (by rw [← e]; simp [Sps])
  obtain ⟨dx, ow, hp⟩ := S.ins
  obtain ⟨many, Sh⟩ := S.sha
  obtain ⟨dx2, hs⟩ := Sh.ins
  obtain ⟨ksp, h1, h2, h3⟩ := S.sdk
  have po : PoAt P w K CS CP H' A near kvm ents sp n := by
    refine ⟨⟨dx, ow, f _ _ hp (nx fun e => by rw [e, hx] at hp; cases hp)⟩, k _ _ S.nr trivial, ⟨many, Sh.fz f fun z hz => ?_⟩, f _ _ S.mk' (nx n2), ⟨ksp, f _ _ h1 (nx n3), h2, fun m hm => let ⟨a, h4, h5⟩ := h3 m hm; ⟨a, h4, Kept.la k h5⟩⟩, S.spk, S.ne, S.nb, S.kb⟩
    rw [List.mem_singleton.mp hz]
    exact ⟨Ne.symm n1, fun e => (by rw [← e, hx] at hs; cases hs), _, hx, not_hard_dK, fun φ h => by cases h⟩
  exact ⟨I.pa.kept k, po, I.st, I.sl, I.Dh.kept k (f _ _ I.Dh.at_ (nx (Ne.symm o.2.1))), I.Dk.kept k (f _ _ I.Dk.at_ (nx (Ne.symm o.2.2))), I.eh, I.ek, I.em, I.rl, k _ _ I.hna trivial, I.nok, I.hwl.kept k, I.wok, I.wn, I.d1, I.d2, I.d3, I.pw, I.ln⟩
theorem LI.dset {x : Addr} {kvs : List (Key × V)} (hx : H x = some (.dK kvs)) (f : Fz [x] H H') : Kept H H' := f.kept fun b hb => by rw [List.mem_singleton.mp hb]; exact ⟨_, hx, not_hard_dK⟩
/-- through a deed: tuples, lists but for the pile -/
theorem LI.st' (I : LI P w K CS CP H pl cl A near kvm ents sp n hd kd kh kk hk gh gk na nm wl W) (f : Fr (pl :: hd :: kd :: Sps A) H H') {a : Addr} {xs : List V} (s : SqT K H a xs) : SqT K H' a xs := by
  obtain ⟨zs, hz⟩ := I.pa.lst
  have ne : ∀ {o}, H a = some o → (∀ ys, o ≠ .lst ys) → (∀ k, o ≠ .dK k) → a ∉ pl :: hd :: kd :: Sps A := fun h h1 h2 m => by
    rcases List.mem_cons.mp m with e | m
    · rw [e, hz] at h; cases h; exact h1 _ rfl
    · obtain ⟨kvs, e⟩ := I.soft a m
      rw [h] at e; cases e; exact h2 _ rfl
  rcases s with (h | ⟨o, h⟩) | h
  · exact .inl (.inl (f _ _ h (ne h (fun _ e => by cases e) fun _ e => by cases e) (fun φ e => by cases e)))
  · exact .inl (.inr ⟨o, f _ _ h (ne h (fun _ e => by cases e) fun _ e => by cases e) (fun φ e => by cases e)⟩)
  · exact .inr h
theorem LI.lst' (I : LI P w K CS CP H pl cl A near kvm ents sp n hd kd kh kk hk gh gk na nm wl W) (f : Fr (pl :: hd :: kd :: Sps A) H H') {a : Addr} {xs : List V} (h : H a = some (.lst xs)) (ne : a ≠ pl) : H' a = some (.lst xs) := by
  refine f _ _ h (fun m => ?_) (fun φ e => by cases e)
  rcases List.mem_cons.mp m with e | m
  · exact ne e
  · obtain ⟨kvs, e⟩ := I.soft a m
    rw [h] at e; cases e
theorem LI.ln' (I : LI P w K CS CP H pl cl A near kvm ents sp n hd kd kh kk hk gh gk na nm wl W) (f : Fr (pl :: hd :: kd :: Sps A) H H') {a : Addr} {ws : List Wish} (h : LN K H a ws) : LN K H' a ws := by
  obtain ⟨xs, h1, was⟩ := h
  exact ⟨xs, I.lst' f h1 (las_pl I.pa (.inl h1) was), WAs.st (fun _ _ => I.st' f) was⟩
theorem LI.df' (I : LI P w K CS CP H pl cl A near kvm ents sp n hd kd kh kk hk gh gk na nm wl W) (f : Fr (pl :: hd :: kd :: Sps A) H H') {d : Addr} {kvs : List (Key × V)} {g : Key → List Wish} (D : DF K H d kvs g) (o : Out A hd kd d) : DF K H' d kvs g := by
  obtain ⟨zs, hz⟩ := I.pa.lst
  refine ⟨f _ _ D.at_ (fun m => ?_) (fun φ e => by cases e), D.nd, fun k hk => let ⟨a, h1, h2⟩ := D.val k hk; ⟨a, h1, I.ln' f h2⟩⟩
  rcases List.mem_cons.mp m with e | m
  · have := D.at_; rw [e, hz] at this; cases this
  · rcases List.mem_cons.mp m with e | m
    · exact o.2.1 e
    · rcases List.mem_cons.mp m with e | m
      · exact o.2.2 e
      · exact o.1 m
theorem LI.names (I : LI P w K CS CP H pl cl A near kvm ents sp n hd kd kh kk hk gh gk na nm wl W) : (ents.map (·.1)).Nodup := let ⟨_, S⟩ := I.po.sha; S.nh
theorem LI.ook (I : LI P w K CS CP H pl cl A near kvm ents sp n hd kd kh kk hk gh gk na nm wl W) (x : Str) : AllOk (oth ents x) := let ⟨_, S⟩ := I.po.sha; S.ook x
theorem LI.gaok (I : LI P w K CS CP H pl cl A near kvm ents sp n hd kd kh kk hk gh gk na nm wl W) {m : Int} (hm : m ∈ near) : AllOk (GA kh kk gh gk m) := fun u hu => I.ook (nS m) u ((ga_mem I.rl I.names I.eh I.ek hm u).mp hu)
theorem LI.spok (I : LI P w K CS CP H pl cl A near kvm ents sp n hd kd kh kk hk gh gk na nm wl W) {m : Int} (hm : m ∈ near) : AllOk (sp m) := isGr_ok (I.st m hm) (I.ook _)
/-- the letters of a deed are heard right -/
theorem LI.vd (I : LI P w K CS CP H pl cl A near kvm ents sp n hd kd kh kk hk gh gk na nm wl W) {kvm' : List (Key × V)} {ents' : Ents} {sp' : Int → List Wish} {n' : Nat} {kh' kk' : List (Key × V)} {hk' : List Str} {gh' : Str → List Wish} {gk' : Int → List Wish}
    (I' : LI P w K CS CP H' pl cl A near kvm' ents' sp' n' hd kd kh' kk' hk' gh' gk' na nm wl W) (hn : n ≤ 40) (hn' : n' ≤ 40) {ge gb : Int → List Wish} (le : ∀ m ∈ near, Like (ge m) (sp m)) (lb : ∀ m ∈ near, ∀ u, u ∈ gb m ↔ u ∈ oth ents (nS m)) :
    Vd near gb (GA kh' kk' gh' gk') (fun g => ∀ m ∈ near, Like (g m) (sp' m)) ge (-1, 0) (lets near sp sp') := by
  refine vd_all near ge (-1, 0) I.pw (fun m h => h) (fun m h => by have := I.rl.pos m h; show (-1 : Int) < m; omega) (fun m hm => ⟨I.spok hm, I'.spok hm, (I.st m hm).nd, (I'.st m hm).nd, by have := I.sl m hm; omega, by have := I'.sl m hm; omega, fun u hu => (I.st m hm).over (I.ook _) ((lb m hm u).mp hu), fun u hu => (I'.st m hm).over (I'.ook _) ((ga_mem I'.rl I'.names I'.eh I'.ek hm u).mp hu)⟩) le fun m hm h => absurd hm h
/-- what is said is right -/
theorem LI.said (I : LI P w K CS CP H pl cl A near kvm ents sp n hd kd kh kk hk gh gk na nm wl W) (hn : n ≤ 40) {g : List Wish} {m : Int} (hm : m ∈ near) (L : Like g (sp m)) : SaidOk (sp m) g (GA kh kk gh gk m) where
  ok1 := I.spok hm
  ok2 := fun u hu => I.spok hm u ((L.2 u).mp hu)
  ok3 := I.gaok hm
  len := (L.len (I.st m hm).nd).symm
  z1 := by have := I.sl m hm; omega
  mem := fun u hu => ⟨(L.2 u).mpr hu, (ga_mem I.rl I.names I.eh I.ek hm u).mpr ((I.st m hm).sub hu)⟩
  nd := (I.st m hm).nd
  top := fun o ho u hu ne => (I.st m hm).top hu ho ne
  over := fun u hu => (I.st m hm).over (I.ook _) ((ga_mem I.rl I.names I.eh I.ek hm u).mp hu)
end
end K33
/-! K29: the law. -/
namespace K33
open PySem PySem.Spec PyProof.Rows L2 Evl TL
theorem q_orR {t u : TT} {tu tz : TS} {D : Ends} {σ : L2.St} {H : Hp} (h1 : EvT t σ H false) (h2 : ∀ H1, Ex H H1 → u σ H1 fun b H2 => if b = true then tu { D with nx := tz D } σ H2 else tNext { D with nx := tz D } σ H2) : tSeq (tIfS (tOr t u) tu tNext) tz D σ H :=
  h1 H (Ex.refl H) _ fun H1 e => by
    show (if false = true then _ else u σ H1 _)
    rw [if_neg Bool.false_ne_true]
    exact h2 H1 e
theorem PlAt.neI {K : PySem.W.Frag} {H : Hp} {pl cl a : Addr} {near : List Int} (p : PlAt K H pl cl) (h : H a = some (.lst (near.map V.int))) : a ≠ pl := fun e => by
  obtain ⟨ns, n1, n2, n3, h1, _⟩ := p
  rw [e, h1] at h
  injection h with h; injection h with h
  cases near with
  | nil => cases h
  | cons a r => injection h with h; cases h
theorem st_updL {K : PySem.W.Frag} {H : Hp} {p : Addr} {zs : List V} {o : HO} (h : H p = some (.lst zs)) {a : Addr} {xs : List V} (s : SqT K H a xs) : SqT K (upd H p o) a xs := by
  rcases s with (s | ⟨z, s⟩) | s
  · exact .inl (.inl (by rw [upd_ne (fun e => by subst e; rw [h] at s; cases s)]; exact s))
  · exact .inl (.inr ⟨z, by rw [upd_ne (fun e => by subst e; rw [h] at s; cases s)]; exact s⟩)
  · exact .inr s
section
variable {P : Program} {w : World} {K : PySem.W.Frag} {mg : Str → Option Value} {base : Heap} {CS CP f : Addr} {fd : FuncData}
def spPile (K : PySem.W.Frag) : Sp := fun vs H Q _ => ∃ (a : Addr) (ns : List Int), vs = [.ref a] ∧ SqL K H a (ns.map V.int) ∧ ∀ p cl H', Ex H H' → PlAt K H' p cl → H p = none → Q (.ref p) H'
def spLaw (K : PySem.W.Frag) : Sp := fun vs H Q _ => ∃ (a : Addr) (ns : List Int), vs = [.ref a] ∧ SqL K H a (ns.map V.int) ∧ ns.length ≤ 63 ∧ ∀ H', Q (.bl true) H'
theorem ok_law (T : Txt K mg CS CP) (c_law_pile : Cal P w K mg base "_law_pile" 1 ["script"] (spPile K)) (c_law_take : Cal P w K mg base "_law_take" 1 ["pile", "many"] (spTk K)) (c_law_texts : Cal P w K mg base "_law_texts" 2 ["pile", "many"] (spTexts K))
    (c_law_wish : Cal P w K mg base "_law_wish" 3 ["pile", "fields"] (spWishL K)) (c_law_near : Cal P w K mg base "_law_near" 2 ["pile", "own"] (spNear K)) (c_Post_init : KCal P w K mg base CP "Post" 3 ["self", "number", "neighbours"] (spPoInit P w K CS CP))
    (c_law_deed : Cal P w K mg base "_law_deed" 9 ["pile", "post", "hands", "known", "names", "wishes"] (spDeed P w K CS CP)) (c_law_base : Cal P w K mg base "_law_base" 1 ["hands", "known", "beside"] (spBase K)) (c_law_heard_right : Cal P w K mg base "_law_heard_right" 3 ["letters", "heard", "before", "after"] (spHeard K))
    (c_law_said_right : Cal P w K mg base "_law_said_right" 3 ["said", "heard", "base"] (spR (rSaid K))) (c_Post_said : MCal P w K mg base CP "said" 3 ["self", "neighbour"] (spSaid P w K CS CP) []) (F : FnP K "law" "law" s_law f fd) : FnOk P w K mg base CX0 10 f fd ["script"] (spLaw K) := by
  refine F.ok sc_law (fun vs H Q E h => ?_) (fun cdv A outer s H vs Q E hr h => ?_)
  · obtain ⟨a, ns, rfl, _⟩ := h; rfl
  have hu := hu_of hr
  refine ⟨_, PSs.nox (pss_cons (ps_set (i := 1) sc_law.nd rfl (Or.inr rfl) (pe_c c_law_pile hr (by decide) rfl (pa_cons (pv 0) pa_nil)))
      (pss_cons (ps_set (i := 2) sc_law.nd rfl (Or.inl rfl) (pe_c c_law_texts hr (by decide) rfl (pa_cons (pv 1) (pa_cons pe_int pa_nil))))
      (pss_cons (ps_set (i := 3) sc_law.nd rfl (Or.inr rfl) (pe_callB cr_sortedS (by rfl) T.n_sorted bt_sorted (pa_cons (pe_c c_law_texts hr (by decide) rfl (pa_cons (pv 1) (pa_cons pe_int pa_nil))) pa_nil)))
      (pss_cons (ps_setLc (own := [("k", 17)]) (g := gName 17) (i := 4) rfl sc_law.nd rfl rfl (sw_true rfl rfl rfl (by decide +kernel)) (pi_range1 rfl T.n_range (pa_cons pe_int pa_nil)) (blkOk_by (own := [("k", 17)]) (N := ["script", "pile", "names", "fields", "wishes", "own", "near", "post", "hands", "known", "heard", "before", "neighbour", "turn", "letters", "given", "after", "k"]) (sc := defScope s_law) (by decide +kernel)) (fun _ _ _ _ _ => pg_name (i := 17) sc_law.nd rfl (Or.inl rfl)) (fun _ _ _ _ _ => pts_nil) (fun _ _ _ _ _ => (pe_c c_law_wish hr (by decide) rfl (pa_cons (pv 1) (pa_cons (pv 3) pa_nil)))))
      (pss_cons (ps_set (i := 5) sc_law.nd rfl (Or.inl rfl) (pe_c c_law_take hr (by decide) rfl (pa_cons (pv 1) (pa_cons pe_int pa_nil))))
      (pss_cons (ps_set (i := 6) sc_law.nd rfl (Or.inl rfl) (pe_c c_law_near hr (by decide) rfl (pa_cons (pv 1) (pa_cons (pv 5) pa_nil))))
      (pss_cons (ps_set (i := 7) sc_law.nd rfl (Or.inl rfl) (pe_mk c_Post_init hr (by decide) rfl (pa_cons (pv 5) (pa_cons (pe_callTy call_list_of (by rfl) T.n_list bt_list (pa_cons (pv 6) pa_nil)) pa_nil))))
      (pss_cons (ps_set (i := 8) sc_law.nd rfl (Or.inl rfl) pe_dnewK)
      (pss_cons (ps_set (i := 9) sc_law.nd rfl (Or.inl rfl) pe_dnewK)
      (pss_cons (ps_set (i := 10) sc_law.nd rfl (Or.inl rfl) pe_dnewK)
      (pss_cons (ps_set (i := 11) sc_law.nd rfl (Or.inl rfl) pe_dnewK)
      (pss_cons (ps_for PassesOwn.never rfl (pi_list (pv 6)) (pg_name (i := 12) sc_law.nd rfl (Or.inl rfl)) (pss_cons (ps_dput hu (pv 9) (pv 12) (pe_lst pa_nil) rfl)
      (pss_cons (ps_dput hu (pv 10) (pv 12) (pe_lst pa_nil) rfl)
      (pss_one (ps_dput hu (pv 11) (pv 12) (pe_lst pa_nil) rfl)))))
      (pss_cons (ps_for PassesOwn.never rfl (pi_range1 rfl T.n_range (pa_cons (pe_op op_add pe_int (pe_c c_law_take hr (by decide) rfl (pa_cons (pv 1) (pa_cons pe_int pa_nil)))) pa_nil)) (pg_name (i := 13) sc_law.nd rfl (Or.inl rfl)) (pss_cons (ps_asg (pe_c c_law_deed hr (by decide) rfl (pa_cons (pv 1) (pa_cons (pv 7) (pa_cons (pv 8) (pa_cons (pv 9) (pa_cons (pv 2) (pa_cons (pv 4) pa_nil))))))) (pg_tup rfl (pgs_cons (pg_name (i := 14) sc_law.nd rfl (Or.inl rfl)) (pgs_cons (pg_name (i := 15) sc_law.nd rfl (Or.inl rfl)) pgs_nil))))
      (pss_cons (ps_set (i := 16) sc_law.nd rfl (Or.inl rfl) pe_dnewK)
      (pss_cons (ps_for PassesOwn.never rfl (pi_list (pv 6)) (pg_name (i := 12) sc_law.nd rfl (Or.inl rfl)) (pss_one (ps_dput hu (pv 16) (pv 12) (pe_c c_law_base hr (by decide) rfl (pa_cons (pv 8) (pa_cons (pv 9) (pa_cons (pv 12) pa_nil)))) rfl)))
      (pss_cons (ps_if (PW.pt (pw_or (pt_cmpR (r := rNeD K) (op_neD hr.units) (pv 15) (pe_lst pa_nil) (nomark _)) (pw_or1 (pt_not (pt_val (pe_c c_law_heard_right hr (by decide) rfl (pa_cons (pv 14) (pa_cons (pv 10) (pa_cons (pv 11) (pa_cons (pv 16) pa_nil)))))))))) (pss_one (ps_ret pe_bl)) pss_nil)
      (pss_cons (ps_for PassesOwn.never rfl (pi_list (pv 6)) (pg_name (i := 12) sc_law.nd rfl (Or.inl rfl)) (pss_one (ps_if (pt_not (pt_val (pe_c c_law_said_right hr (by decide) rfl (pa_cons (pe_m c_Post_said (pv 7) T.clPost hr (by decide) (pa_cons (pv 12) pa_nil)) (pa_cons (pe_dget hu (pv 10) (pv 12) (fun _ _ => rfl)) (pa_cons (pe_dget hu (pv 16) (pv 12) (fun _ _ => rfl)) pa_nil)))))) (pss_one (ps_ret pe_bl)) pss_nil)))
      (pss_one (ps_set (i := 11) sc_law.nd rfl (Or.inl rfl) (pv 16)))))))))
      (pss_one (ps_ret pe_bl))))))))))))))), ?_⟩
  obtain ⟨sc, ns, rfl, sq, _, q⟩ := h
  refine ⟨_, rfl, sc, ns, rfl, sq, fun pl cl H1 e1 p1 _ => ?_⟩
  refine ⟨_, rfl, pl, cl, rfl, p1, fun na nm H2 hna0 p2 f2 hna nok => ?_⟩
  refine ⟨_, rfl, pl, cl, rfl, p2, fun fa0 fs0 H3 hfa0 p3 f3 hfs0 fok0 => ⟨fa0, fs0, rfl, sq_of hfs0, by rw [fok0.1]; decide, fun fs fa pm hs hfa => ?_⟩⟩
  have nna : na ∉ [pl] := fun m => p2.ne hna (by rw [List.length_map, nok.1]; decide) (List.mem_singleton.mp m)
  have h3na := f3 _ _ hna nna
  have fok : FldsOk fs := ⟨by rw [pm.length_eq]; exact fok0.1, sorted_pw hs (pm.nodup_iff.mpr fok0.2.1), fun x hx => fok0.2.2 x (pm.mem_iff.mp hx)⟩
  have e4 := Ex.new (o := .lst (fs.map V.str)) hfa
  have p4 := p3.ex e4
  have h4na := e4 _ _ h3na
  have h4fa : upd H3 fa (.lst (fs.map V.str)) fa = some (.lst (fs.map V.str)) := upd_same
  dsimp only
  generalize upd H3 fa (.lst (fs.map V.str)) = H4 at e4 p4 h4na h4fa ⊢
  -- the six wishes
  refine ⟨6, rfl, by decide, by decide, fun wl hwl => ?_⟩
  obtain ⟨nwp, nwc⟩ := p4.new hwl
  have nfa : fa ∉ [pl] := fun m => p4.ne h4fa (by rw [List.length_map, fok.1]; decide) (List.mem_singleton.mp m)
  have nwl : wl ∉ [pl] := fun m => nwp (List.mem_singleton.mp m)
  have nwna : na ≠ wl := ne_of_none h4na hwl
  have nwfa : fa ≠ wl := ne_of_none h4fa hwl
  refine lc_range (lo := 0) (n := (6 : Int).toNat) (fun i H' => PlAt K H' pl cl ∧ H' na = some (.lst (nm.map V.str)) ∧ H' fa = some (.lst (fs.map V.str)) ∧ ∃ rs W, H' wl = some (.lst rs) ∧ WAs K H' rs W ∧ AllOk W ∧ W.length = i)
    ⟨p4.upd nwp nwc, by rw [upd_ne nwna]; exact h4na, by rw [upd_ne nwfa]; exact h4fa, [], [], upd_same, .nil, fun u hu => (by cases hu), rfl⟩ (fun i H' hi p => ?_) fun H' p => ?_
  · obtain ⟨p5, h5na, h5fa, rs, W, h5, was, wok, hl⟩ := p
    refine ⟨rfl, yes_go ?_⟩
    refine ⟨_, rfl, _, rfl, pl, cl, fa, fs, rfl, p5, h5fa, fok, fun v wi H6 p6 f6 wa6 ok6 => ?_⟩
    have h6 := f6 _ _ h5 nwl
    have lrs := was.length
    have hi6 : i < 6 := hi
    refine ⟨rs, h6, sz_lt (by omega), p6.upd nwp nwc, by rw [upd_ne nwna]; exact f6 _ _ h5na nna, by rw [upd_ne nwfa]; exact f6 _ _ h5fa nfa, rs ++ [v], W ++ [wi], upd_same, ?_, fun u hu => ?_, by rw [List.length_append, hl]; rfl⟩
    · unfold WAs
      rw [List.map_append]
      exact DpAll.append (WAs.st (fun _ _ => st_updL h6) (WAs.st (fun _ _ => Fz.st p5 f6) was)) (.cons (WAs.st1 (fun _ _ => st_updL h6) wa6) .nil)
    · rcases List.mem_append.mp hu with h | h
      · exact wok u h
      · rw [List.mem_singleton.mp h]; exact ok6
  · obtain ⟨p5, h5na, h5fa, rs, W, h5, was, wok, hW⟩ := p
    have hW : W.length = 6 := hW
    have ln5 : LN K H' wl W := ⟨rs, h5, was⟩
    refine ⟨_, rfl, pl, cl, 30, rfl, p5, by decide, by decide, fun own H6 o0 o1 p6 f6 => ?_⟩
    have ln6 := Fz.ln p5 f6 ln5
    have h6na := f6 _ _ h5na nna
    refine ⟨_, rfl, _, rfl, pl, cl, own, rfl, p6, o0, o1, fun nr near H7 hnr0 p7 f7 hnr nk => ?_⟩
    have ln7 := Fz.ln p6 f7 ln6
    have h7na := f7 _ _ h6na nna
    obtain ⟨npw, nbd, nl1, nl4⟩ := nk
    have nnd : near.Nodup := npw.imp fun h e => by omega
    -- the post
    refine ⟨_, rfl, _, rfl, nr, _, rfl, .inl (sq_of hnr), fun l hl => ?_⟩
    have e8 := Ex.new (o := .lst (near.map V.int)) hl
    have h8l : upd H7 l (.lst (near.map V.int)) l = some (.lst (near.map V.int)) := upd_same
    have p8 := p7.ex e8
    have ln8 := ln7.ex e8
    have h8na := e8 _ _ h7na
    have h8nr := e8 _ _ hnr
    dsimp only
    generalize upd H7 l (.lst (near.map V.int)) = H8 at e8 h8l p8 ln8 h8na h8nr ⊢
    refine fun po dx hpo hdx ndp => ?_
    have e9 : Ex H8 (upd (upd H8 dx (.own po)) po (.ins CP dx [])) := (Ex.new hdx).trans (Ex.new (by rw [upd_ne (Ne.symm ndp)]; exact hpo))
    refine ⟨po, dx, own, l, near, rfl, upd_same, sq_of (e9 _ _ h8l), ⟨nnd, nbd, by omega⟩, fun H10 A hA S f10 => ⟨rfl, ?_⟩⟩
    have e10 : Ex H8 H10 := fun b o hb => f10 _ _ (e9 _ _ hb) (fun m => ne_of_none hb hpo (List.mem_singleton.mp m))
    have p10 := p8.ex e10
    have ln10 := ln8.ex e10
    have h10na := e10 _ _ h8na
    have h10nr := e10 _ _ h8nr
    subst hA
    -- the four dicts
    refine fun hd hhd kd hkd ed hed bd hbd => ?_
    have x1 := Ex.new (o := .dK []) hhd
    have x2 := Ex.new (o := .dK []) hkd
    have x3 := Ex.new (o := .dK []) hed
    have x4 := Ex.new (o := .dK []) hbd
    have n12 : hd ≠ kd := ne_of_none (o := .dK []) upd_same hkd
    have n13 : hd ≠ ed := ne_of_none (o := .dK []) (x2 _ _ upd_same) hed
    have n23 : kd ≠ ed := ne_of_none (o := .dK []) upd_same hed
    have n14 : hd ≠ bd := ne_of_none (o := .dK []) ((x2.trans x3) _ _ upd_same) hbd
    have n24 : kd ≠ bd := ne_of_none (o := .dK []) (x3 _ _ upd_same) hbd
    have n34 : ed ≠ bd := ne_of_none (o := .dK []) upd_same hbd
    have e11 := (((x1.trans x2).trans x3).trans x4)
    have d1 := ((x2.trans x3).trans x4) _ _ (upd_same (a := hd) (o := .dK []))
    have d2 := (x3.trans x4) _ _ (upd_same (a := kd) (o := .dK []))
    have d3 := x4 _ _ (upd_same (a := ed) (o := .dK []))
    have d4 : upd (upd (upd (upd H10 hd (.dK [])) kd (.dK [])) ed (.dK [])) bd (.dK []) bd = some (.dK []) := upd_same
    have old : ∀ {x o}, H10 x = some o → x ≠ hd ∧ x ≠ kd ∧ x ≠ ed ∧ x ≠ bd := fun h => ⟨ne_of_none h hhd, ne_of_none (x1 _ _ h) hkd, ne_of_none ((x1.trans x2) _ _ h) hed, ne_of_none (((x1.trans x2).trans x3) _ _ h) hbd⟩
    clear x1 x2 x3 x4 hkd hed hbd
    dsimp only
    generalize upd (upd (upd (upd H10 hd (.dK [])) kd (.dK [])) ed (.dK [])) bd (.dK []) = H11 at e11 d1 d2 d3 d4 ⊢
    have S11 := S.ex e11
    obtain ⟨many, Sh⟩ := S.sha
    obtain ⟨ksp, hks, _⟩ := S.sdk
    have oSps : ∀ x ∈ Sps A, x ≠ hd ∧ x ≠ kd ∧ x ≠ ed ∧ x ≠ bd := fun x hx => by
      simp only [Sps, List.mem_cons, List.not_mem_nil, or_false] at hx
      rcases hx with h | h | h <;> subst h
      · exact old Sh.dk
      · exact old S.mk'
      · exact old hks
    have hdS : hd ∉ Sps A := fun m => (oSps _ m).1 rfl
    have kdS : kd ∉ Sps A := fun m => (oSps _ m).2.1 rfl
    have oe : Out A hd kd ed := ⟨fun m => (oSps _ m).2.2.1 rfl, Ne.symm n13, Ne.symm n23⟩
    have ob : Out A hd kd bd := ⟨fun m => (oSps _ m).2.2.2 rfl, Ne.symm n14, Ne.symm n24⟩
    have z0 : ∀ m : Int, fU (fun _ : Int => ([] : List Wish)) m [] = fun _ => [] := fun m => fU_self (fun _ : Int => ([] : List Wish)) m
    have mem3 : ∀ {b : Addr} {o : HO}, H10 b = some o → b ∉ [kd, ed, bd] := fun h m => by
      obtain ⟨a1, a2, a3, a4⟩ := old h
      simp only [List.mem_cons, List.not_mem_nil, or_false] at m
      rcases m with m | m | m
      · exact a2 m
      · exact a3 m
      · exact a4 m
    refine q_forLn (ev_var rfl) (sq_of (e11 _ _ h10nr)) (fun i σ' H' => (∃ x12, σ' = [some (.ref sc), some (.ref pl), some (.ref na), some (.ref fa), some (.ref wl), some (.int own), some (.ref nr), some (.ref A.p), some (.ref hd), some (.ref kd), some (.ref ed), some (.ref bd), x12, none, none, none, none, none]) ∧ Fz [kd, ed, bd] H11 H' ∧
        ∃ k1 k2 k3, DF K H' kd k1 (kf fun _ => []) ∧ DF K H' ed k2 (kf fun _ => []) ∧ DF K H' bd k3 (kf fun _ => []) ∧ k1.map (·.1) = (near.take i).map Sum.inl ∧ k2.map (·.1) = (near.take i).map Sum.inl ∧ k3.map (·.1) = (near.take i).map Sum.inl)
      (fun H12 e12 => ⟨⟨_, rfl⟩, .of e12, [], [], [], .new (e12 _ _ d2), .new (e12 _ _ d3), .new (e12 _ _ d4), rfl, rfl, rfl⟩) (fun i σ' H' _ p => sq_of (p.2.1 _ _ (e11 _ _ h10nr) (mem3 h10nr))) (fun i x σ' H' hi p => ?_) fun σ' H' p => ?_
    · obtain ⟨⟨x12, rfl⟩, fz, k1, k2, k3, D1, D2, D3, q1, q2, q3⟩ := p
      rw [List.getElem?_map] at hi
      obtain ⟨m, hm, rfl⟩ := Option.map_eq_some_iff.mp hi
      have hlt : i < near.length := (List.getElem?_eq_some_iff.mp hm).1
      have hnt : m ∉ near.take i := fun h => by
        have nd2 : (near.take i ++ near.drop i).Nodup := by rw [List.take_append_drop]; exact nnd
        exact (List.nodup_append.mp nd2).2.2 _ h m (by rw [drop_of hm]; exact List.mem_cons_self ..) rfl
      have nk : ∀ {ks : List (Key × V)}, ks.map (·.1) = (near.take i).map Sum.inl → ¬ (Sum.inl m : Key) ∈ ks.map (·.1) := fun h hin => by
        rw [h] at hin
        obtain ⟨y, hy, e⟩ := List.mem_map.mp hin
        exact hnt (Sum.inl.inj e ▸ hy)
      have kz : ∀ {ks : List (Key × V)}, ks.map (·.1) = (near.take i).map Sum.inl → ks.length ≤ 100 := fun h => by
        have := congrArg List.length h
        rw [List.length_map, List.length_map, List.length_take] at this
        omega
      have tk : (near.take (i + 1)).map (Sum.inl : Int → Key) = (near.take i).map Sum.inl ++ [Sum.inl m] := by rw [take_of hm, List.map_append]; rfl
      refine ⟨by show 0 ≤ sizeLine; decide, fun l1 hl1 => ⟨_, rfl, _, rfl, kd, _, rfl, DPut.k (k := .inl m) ((Ex.new hl1) _ _ D1.at_) (sz_lt (by have := kz q1; omega)), ?_⟩⟩
      have y1 := Ex.new (o := .lst []) hl1
      have g1 : LN K (upd H' l1 (.lst [])) l1 [] := ⟨[], upd_same, .nil⟩
      have E1 := (D1.ex y1).put (.inl m) g1
      rw [kf_fU, z0] at E1
      have kp1 : Kept (upd H' l1 (.lst [])) (upd (upd H' l1 (.lst [])) kd (.dK (putK k1 (.inl m) (.ref l1)))) := .upd (D1.ex y1).at_ not_hard_dK
      have E2 := (D2.ex y1).kept kp1 (by rw [upd_ne (Ne.symm n23)]; exact (D2.ex y1).at_)
      have E3 := (D3.ex y1).kept kp1 (by rw [upd_ne (Ne.symm n24)]; exact (D3.ex y1).at_)
      have fz1 : Fz [kd, ed, bd] H11 (upd (upd H' l1 (.lst [])) kd (.dK (putK k1 (.inl m) (.ref l1)))) := (fz.trans (.of y1)).trans (.upd (by simp))
      dsimp only
      generalize upd (upd H' l1 (.lst [])) kd (.dK (putK k1 (.inl m) (.ref l1))) = HA at E1 E2 E3 fz1 ⊢
      refine ⟨by show 0 ≤ sizeLine; decide, fun l2 hl2 => ⟨_, rfl, _, rfl, ed, _, rfl, DPut.k (k := .inl m) ((Ex.new hl2) _ _ E2.at_) (sz_lt (by have := kz q2; omega)), ?_⟩⟩
      have y2 := Ex.new (o := .lst []) hl2
      have g2 : LN K (upd HA l2 (.lst [])) l2 [] := ⟨[], upd_same, .nil⟩
      have G2 := (E2.ex y2).put (.inl m) g2
      rw [kf_fU, z0] at G2
      have kp2 : Kept (upd HA l2 (.lst [])) (upd (upd HA l2 (.lst [])) ed (.dK (putK k2 (.inl m) (.ref l2)))) := .upd (E2.ex y2).at_ not_hard_dK
      have G1 := (E1.ex y2).kept kp2 (by rw [upd_ne n23]; exact (E1.ex y2).at_)
      have G3 := (E3.ex y2).kept kp2 (by rw [upd_ne (Ne.symm n34)]; exact (E3.ex y2).at_)
      have fz2 : Fz [kd, ed, bd] H11 (upd (upd HA l2 (.lst [])) ed (.dK (putK k2 (.inl m) (.ref l2)))) := (fz1.trans (.of y2)).trans (.upd (by simp))
      dsimp only
      generalize upd (upd HA l2 (.lst [])) ed (.dK (putK k2 (.inl m) (.ref l2))) = HB at G1 G2 G3 fz2 ⊢
      refine ⟨by show 0 ≤ sizeLine; decide, fun l3 hl3 => ⟨_, rfl, _, rfl, bd, _, rfl, DPut.k (k := .inl m) ((Ex.new hl3) _ _ G3.at_) (sz_lt (by have := kz q3; omega)), ?_⟩⟩
      have y3 := Ex.new (o := .lst []) hl3
      have g3 : LN K (upd HB l3 (.lst [])) l3 [] := ⟨[], upd_same, .nil⟩
      have M3 := (G3.ex y3).put (.inl m) g3
      rw [kf_fU, z0] at M3
      have kp3 : Kept (upd HB l3 (.lst [])) (upd (upd HB l3 (.lst [])) bd (.dK (putK k3 (.inl m) (.ref l3)))) := .upd (G3.ex y3).at_ not_hard_dK
      exact ⟨⟨_, rfl⟩, (fz2.trans (.of y3)).trans (.upd (by simp)), _, _, _, (G1.ex y3).kept kp3 (by rw [upd_ne n24]; exact (G1.ex y3).at_), (G2.ex y3).kept kp3 (by rw [upd_ne n34]; exact (G2.ex y3).at_), M3, by rw [keys_new (nk q1), q1, tk], by rw [keys_new (nk q2), q2, tk], by rw [keys_new (nk q3), q3, tk]⟩
    · obtain ⟨⟨x12, rfl⟩, fz, k1, k2, k3, D1, D2, D3, q1, q2, q3⟩ := p
      rw [show near.take (near.map V.int).length = near from by rw [List.length_map, List.take_length]] at q1 q2 q3
      have eF : ∀ {b o}, H10 b = some o → H' b = some o := fun h => fz _ _ (e11 _ _ h) (mem3 h)
      have eF : Ex H10 H' := fun b o h => eF h
      have hdF : H' hd = some (.dK []) := fz _ _ d1 (by simp [n12, n13, n14])
      have I0 : LI P w K CS CP H' pl cl A near [] [] (fun _ => []) 0 hd kd [] k1 [] (fun _ => []) (fun _ => []) na nm wl W :=
        ⟨p10.ex eF, S.ex eF, fun m _ => IsGr.nil, fun m _ => Nat.le_refl _, .new hdF, D1, rfl, q1, rfl,
          ⟨fun x hx => (by cases hx), fun x hx => (by cases hx), fun m _ u => ⟨fun h => (by cases h), fun h => (by cases h)⟩, fun h u hu => (by cases hu), fun m hm => (nbd m hm).1, Nat.le_refl _, fun x hx => (by cases hx), fun m _ => Nat.le_refl _⟩,
          eF _ _ h10na, nok, ln10.ex eF, wok, hW, hdS, kdS, n12, npw, ⟨nl1, nl4⟩⟩
      have hnrF := eF _ _ h10nr
      clear fz d1 d2 d3 d4 e11 e10 f10 e9 e8
      -- the turns
      refine q_forR1p (Φ := fun N H12 => 0 ≤ N ∧ N ≤ 16 ∧ PlAt K H12 pl cl ∧ Fz [pl] H' H12) (fun Q' q' => ⟨_, rfl, pl, cl, 12, rfl, I0.pa, by decide, by decide, fun r H12 r0 r1 p12 f12 => ⟨5, r, rfl, rfl, q' _ H12 ⟨by omega, by omega, p12, f12⟩⟩⟩) (fun N H12 p => ⟨p.1, by omega⟩)
        (fun N i σ' H2 => N ≤ 16 ∧ ∃ kvm ents sp kh kk hk gh gk bd' ke kb ge gb x12 x13 x14 x15 x16, σ' = [some (.ref sc), some (.ref pl), some (.ref na), some (.ref fa), some (.ref wl), some (.int own), some (.ref nr), some (.ref A.p), some (.ref hd), some (.ref kd), some (.ref ed), some (.ref bd'), x12, x13, x14, x15, x16, none] ∧ LI P w K CS CP H2 pl cl A near kvm ents sp i hd kd kh kk hk gh gk na nm wl W ∧ H2 nr = some (.lst (near.map V.int)) ∧
          DF K H2 ed ke (kf ge) ∧ DF K H2 bd' kb (kf gb) ∧ ke.map (·.1) = near.map Sum.inl ∧ kb.map (·.1) = near.map Sum.inl ∧ Out A hd kd bd' ∧ ed ≠ bd' ∧ (∀ m ∈ near, Like (ge m) (sp m)) ∧ (∀ m ∈ near, ∀ u, u ∈ gb m ↔ u ∈ oth ents (nS m)) ∧ ∀ m ∈ near, (gb m).length ≤ 2000)
        (fun N H12 p => ⟨p.2.1, [], [], fun _ => [], [], k1, [], fun _ => [], fun _ => [], bd, k2, k3, fun _ => [], fun _ => [], _, _, _, _, _, rfl, I0.fz p.2.2.2 p.2.2.1, p.2.2.2 _ _ hnrF (fun m => I0.pa.neI hnrF (List.mem_singleton.mp m)), Fz.df I0.pa p.2.2.2 D2, Fz.df I0.pa p.2.2.2 D3, q2, q3, ob, n34, fun m _ => ⟨List.nodup_nil, fun u => Iff.rfl⟩, fun m _ u => Iff.rfl, fun m _ => Nat.zero_le _⟩) (fun N i σ' H2 hi p => ?_) fun N σ' H2 p => ?_
      · obtain ⟨hN, kvm, ents, sp, kh, kk, hk, gh, gk, bd', ke, kb, ge, gb, x12, x13, x14, x15, x16, rfl, I, hnr2, De, Db, qe, qb, ob', neb, le, lb, zb⟩ := p
        have hi40 : i < 40 := by omega
        refine ⟨_, rfl, _, rfl, _, rfl, _, rfl, _, rfl, _, rfl, pl, cl, A, near, kvm, ents, sp, i, hd, kd, kh, kk, hk, gh, gk, na, nm, wl, W, rfl, I, hi40, fun v H3 kvm' ents' sp' kh' kk' hk' gh' gk' I' pr fr => ?_⟩
        obtain ⟨t, lv, g, rfl, ht, lt, hg⟩ := pr
        refine ⟨t, _, rfl, st_of ht, rfl, _, _, rfl, _, _, rfl, rfl, ?_⟩
        dsimp only
        have De3 := I.df' fr De oe
        have Db3 := I.df' fr Db ob'
        have hnr3 := I.lst' fr hnr2 (I.pa.neI hnr2)
        refine fun ad had => ?_
        have oa : Out A hd kd ad := I'.new had
        have nea : ed ≠ ad := ne_of_none De3.at_ had
        have nba : bd' ≠ ad := ne_of_none Db3.at_ had
        have e4 := Ex.new (o := .dK []) had
        have I4 := I'.ex e4
        have De4 := De3.ex e4
        have Db4 := Db3.ex e4
        have hnr4 := e4 _ _ hnr3
        have lt4 := lt.ex e4
        have hg4 := e4 _ _ hg
        have had4 : upd H3 ad (.dK []) ad = some (.dK []) := upd_same
        dsimp only
        generalize upd H3 ad (.dK []) = H4 at e4 I4 De4 Db4 hnr4 lt4 hg4 had4 ⊢
        have fk : ∀ {H5}, Fz [ad] H4 H5 → Kept H4 H5 := fun f => LI.dset had4 f
        have nad : ∀ {x}, x ≠ ad → x ∉ [ad] := fun h m => h (List.mem_singleton.mp m)
        have gl := ga_len I'.rl (by omega) nl4 I'.eh I'.ek
        refine q_forLn (ev_var rfl) (sq_of hnr4) (fun j σ' H5 => (∃ x12, σ' = [some (.ref sc), some (.ref pl), some (.ref na), some (.ref fa), some (.ref wl), some (.int own), some (.ref nr), some (.ref A.p), some (.ref hd), some (.ref kd), some (.ref ed), some (.ref bd'), x12, some (.int (i : Int)), some lv, some (.ref g), some (.ref ad), none]) ∧ Fz [ad] H4 H5 ∧ ∃ ka, DF K H5 ad ka (kf (GA kh' kk' gh' gk')) ∧ ka.map (·.1) = (near.take j).map Sum.inl)
          (fun H5 e5 => ⟨⟨_, rfl⟩, .of e5, [], .new (e5 _ _ had4), rfl⟩) (fun j σ' H5 _ p => sq_of (fk p.2.1 _ _ hnr4 trivial)) (fun j x σ' H5 hj p => ?_) fun σ' H5 p => ?_
        · obtain ⟨⟨y12, rfl⟩, f5, ka, Da, qa⟩ := p
          rw [List.getElem?_map] at hj
          obtain ⟨m, hm, rfl⟩ := Option.map_eq_some_iff.mp hj
          have hlt : j < near.length := (List.getElem?_eq_some_iff.mp hm).1
          have hnt : m ∉ near.take j := fun h => by
            have nd2 : (near.take j ++ near.drop j).Nodup := by rw [List.take_append_drop]; exact nnd
            exact (List.nodup_append.mp nd2).2.2 _ h m (by rw [drop_of hm]; exact List.mem_cons_self ..) rfl
          have nkm : ¬ (Sum.inl m : Key) ∈ ka.map (·.1) := fun hin => by
            rw [qa] at hin
            obtain ⟨y, hy, e⟩ := List.mem_map.mp hin
            exact hnt (Sum.inl.inj e ▸ hy)
          have kz : ka.length ≤ 100 := by
            have := congrArg List.length qa
            rw [List.length_map, List.length_map, List.length_take] at this
            omega
          have I5 := I4.fs f5 had4 oa
          refine ⟨_, rfl, _, rfl, _, rfl, hd, kd, m, kh', kk', hf gh', kf gk', rfl, I5.Dh, I5.Dk, n12, fun kv hkv => ?_, by omega, by omega, fun p H6 e6 ln => ?_⟩
          · have : kv.1 ∈ kk'.map (·.1) := List.mem_map.mpr ⟨kv, hkv, rfl⟩
            rw [I5.ek] at this
            obtain ⟨y, _, e⟩ := List.mem_map.mp this
            exact ⟨y, e.symm⟩
          · refine ⟨_, rfl, _, rfl, ad, _, rfl, DPut.k (k := .inl m) (e6 _ _ Da.at_) (sz_lt (by omega)), ⟨_, rfl⟩, (f5.trans (.of e6)).trans (.upd (List.mem_singleton.mpr rfl)), putK ka (.inl m) (.ref p), ?_, ?_⟩
            · have D6 := (Da.ex e6).put (.inl m) ln
              rw [kf_fU] at D6
              have hga : fU (GA kh' kk' gh' gk') m (GA kh' kk' gh' gk' m) = GA kh' kk' gh' gk' := fU_self _ _
              exact hga ▸ D6
            · rw [keys_new nkm, qa, take_of hm, List.map_append]; rfl
        · obtain ⟨⟨y12, rfl⟩, f5, ka, Da, qa⟩ := p
          rw [show near.take (near.map V.int).length = near from by rw [List.length_map, List.take_length]] at qa
          have I5 := I4.fs f5 had4 oa
          have kp5 := fk f5
          have De5 := De4.kept kp5 (f5 _ _ De4.at_ (nad nea))
          have Db5 := Db4.kept kp5 (f5 _ _ Db4.at_ (nad nba))
          have lt5 := lt4.kept kp5
          have hg5 := kp5 _ _ hg4 trivial
          have hnr5 := kp5 _ _ hnr4 trivial
          refine q_orR (et_is (et_test (ev_opL (xs := []) (ev_var rfl) (el_lst ea_nil (Nat.zero_le _)) fun r H6 h6 e6 => rv_neD (d := lD []) (e := lD []) (fun H7 e7 => .lst (sq_of (e7 _ _ (e6 _ _ hg5))) .nil) (fun H7 e7 => .lst (sq_of (e7 _ _ h6)) .nil) (lD_shaped fun u hu => by cases hu) (lD_shaped fun u hu => by cases hu) rfl)) (by rw [lD_eqv]; rfl)) fun H6 e6 => ?_
          have I6 := I5.ex e6
          have De6 := De5.ex e6
          refine ⟨_, rfl, _, rfl, _, rfl, _, rfl, lv, ed, bd', ad, _, ke, kb, ka, ge, gb, GA kh' kk' gh' gk', near, _, rfl, lt5.ex e6, De6, Db5.ex e6, Da.ex e6, qe, qb, qa, by omega, neb, nea, fun m hm => ⟨fun u hu => I.ook _ u ((lb m hm u).mp hu), I'.gaok hm, zb m hm⟩, I.vd I' (by omega) (by omega) le lb, fun H7 ge' ke' De7 qe' hΦ f7 => ⟨true, rfl, ?_⟩⟩
          show (if (!true) = true then _ else _)
          rw [if_neg (by decide)]
          have I7 := I6.fs f7 De6.at_ oe
          have kp7 : Kept H6 H7 := LI.dset De6.at_ f7
          have Da7 := (Da.ex e6).kept kp7 (f7 _ _ (Da.ex e6).at_ (fun m => nea (List.mem_singleton.mp m).symm))
          have hnr7 := kp7 _ _ (e6 _ _ hnr5) trivial
          show tSeq _ _ _ _ H7
          refine q_forLn (ev_var rfl) (sq_of hnr7) (fun j σ' H8 => (∃ x12, σ' = [some (.ref sc), some (.ref pl), some (.ref na), some (.ref fa), some (.ref wl), some (.int own), some (.ref nr), some (.ref A.p), some (.ref hd), some (.ref kd), some (.ref ed), some (.ref bd'), x12, some (.int (i : Int)), some lv, some (.ref g), some (.ref ad), none]) ∧ Ex H7 H8)
            (fun H8 e8 => ⟨⟨_, rfl⟩, e8⟩) (fun j σ' H8 _ p => sq_of (p.2 _ _ hnr7)) (fun j x σ' H8 hj p => ?_) fun σ' H8 p => ?_
          · obtain ⟨⟨z12, rfl⟩, e8⟩ := p
            rw [List.getElem?_map] at hj
            obtain ⟨m, hm, rfl⟩ := Option.map_eq_some_iff.mp hj
            have hmem : m ∈ near := List.mem_of_getElem? hm
            refine s_when (b := false) (et_not (a := true) (et_B fun H9 e9 Q' q' => ?_)) (fun h => by cases h) fun _ H9 e9 => ⟨⟨_, rfl⟩, e8.trans e9⟩
            have I9 := I7.ex (e8.trans e9)
            obtain ⟨dx9, own9, hp9⟩ := I9.po.ins
            obtain ⟨ah, dg1, lh⟩ := (De7.ex (e8.trans e9)).get qe' hmem
            obtain ⟨aa, dg2, la⟩ := (Da7.ex (e8.trans e9)).get qa hmem
            refine ⟨_, rfl, A.p, dx9, _, rfl, hp9, rfl, _, rfl, A, near, kvm', ents', sp', i + 1, m, rfl, I9.po, hmem, fun p H10 hp10 e10 ln10 => ?_⟩
            exact ⟨_, rfl, _, rfl, ed, .ref ah, rfl, dget_ex e10 dg1, _, rfl, _, rfl, ad, .ref aa, rfl, dget_ex e10 dg2, .bl true, ⟨p, ah, aa, sp' m, ge' m, GA kh' kk' gh' gk' m, rfl, ln10.la, (lh.ex e10).la, (la.ex e10).la, I'.said (by omega) hmem (hΦ m hmem), rfl⟩, fun H11 e11 => q' H11 (e10.trans e11)⟩
          · obtain ⟨⟨z12, rfl⟩, e8⟩ := p
            refine ⟨_, rfl, ?_⟩
            exact ⟨hN, kvm', ents', sp', kh', kk', hk', gh', gk', ad, ke', ka, ge', GA kh' kk' gh' gk', _, _, _, _, _, rfl, I7.ex e8, e8 _ _ hnr7, De7.ex e8, Da7.ex e8, qe', qa, oa, nea, hΦ, fun m hm u => ga_mem I'.rl I'.names I'.eh I'.ek hm u, fun m hm => by
              have := filt_len (kk'.map (·.1)) (fun k => decide (k ≠ .inl m)) (kf gk')
              unfold GA
              rw [List.length_append]
              omega⟩
      · exact s_ret ev_c fun H3 e3 => q H3
end
end K33
set_option maxHeartbeats 0
/-! K30: the head: facts by names, the run of the top. -/
namespace K33
open PySem PySem.Spec PyProof.Rows L2
def d_is_whole : He.DefD := ⟨("is_whole", none), "is_whole", "is_whole", defArgs s_is_whole, defBody s_is_whole, defScope s_is_whole, [], []⟩
def d_is_span : He.DefD := ⟨("is_span", none), "is_span", "is_span", defArgs s_is_span, defBody s_is_span, defScope s_is_span, [], []⟩
def d_is_field : He.DefD := ⟨("is_field", none), "is_field", "is_field", defArgs s_is_field, defBody s_is_field, defScope s_is_field, [], []⟩
def d_are_parts : He.DefD := ⟨("are_parts", none), "are_parts", "are_parts", defArgs s_are_parts, defBody s_are_parts, defScope s_are_parts, [], []⟩
def d_is_wish : He.DefD := ⟨("is_wish", none), "is_wish", "is_wish", defArgs s_is_wish, defBody s_is_wish, defScope s_is_wish, [], []⟩
def d_does_cover : He.DefD := ⟨("does_cover", none), "does_cover", "does_cover", defArgs s_does_cover, defBody s_does_cover, defScope s_does_cover, [], []⟩
def d_law_covers : He.DefD := ⟨("_law_covers", none), "_law_covers", "_law_covers", defArgs s_law_covers, defBody s_law_covers, defScope s_law_covers, [], []⟩
def d_rank : He.DefD := ⟨("rank", none), "rank", "rank", defArgs s_rank, defBody s_rank, defScope s_rank, [], []⟩
def d_is_name : He.DefD := ⟨("is_name", none), "is_name", "is_name", defArgs s_is_name, defBody s_is_name, defScope s_is_name, [], []⟩
def d_is_count : He.DefD := ⟨("is_count", none), "is_count", "is_count", defArgs s_is_count, defBody s_is_count, defScope s_is_count, [], []⟩
def d_is_letter : He.DefD := ⟨("is_letter", none), "is_letter", "is_letter", defArgs s_is_letter, defBody s_is_letter, defScope s_is_letter, [], []⟩
def d_look_wishes : He.DefD := ⟨("look_wishes", none), "look_wishes", "look_wishes", defArgs s_look_wishes, defBody s_look_wishes, defScope s_look_wishes, [], []⟩
def d_unlike : He.DefD := ⟨("unlike", none), "unlike", "unlike", defArgs s_unlike, defBody s_unlike, defScope s_unlike, [], []⟩
def d_is_below : He.DefD := ⟨("is_below", none), "is_below", "is_below", defArgs s_is_below, defBody s_is_below, defScope s_is_below, [], []⟩
def d_greatest_of : He.DefD := ⟨("greatest_of", none), "greatest_of", "greatest_of", defArgs s_greatest_of, defBody s_greatest_of, defScope s_greatest_of, [], []⟩
def d_look_holder : He.DefD := ⟨("look_holder", none), "look_holder", "look_holder", defArgs s_look_holder, defBody s_look_holder, defScope s_look_holder, [], []⟩
def d_look_unlike : He.DefD := ⟨("look_unlike", none), "look_unlike", "look_unlike", defArgs s_look_unlike, defBody s_look_unlike, defScope s_look_unlike, [], []⟩
def d_change : He.DefD := ⟨("change", none), "change", "change", defArgs s_change, defBody s_change, defScope s_change, [], []⟩
def d_Shelf_init : He.DefD := ⟨("Shelf", some "__init__"), "__init__", "Shelf.__init__", defArgs s_Shelf_init, defBody s_Shelf_init, defScope s_Shelf_init, [], []⟩
def d_Shelf_put : He.DefD := ⟨("Shelf", some "put"), "put", "Shelf.put", defArgs s_Shelf_put, defBody s_Shelf_put, defScope s_Shelf_put, [], []⟩
def d_Shelf_take : He.DefD := ⟨("Shelf", some "take"), "take", "Shelf.take", defArgs s_Shelf_take, defBody s_Shelf_take, defScope s_Shelf_take, [], []⟩
def d_Shelf_greatest : He.DefD := ⟨("Shelf", some "greatest"), "greatest", "Shelf.greatest", defArgs s_Shelf_greatest, defBody s_Shelf_greatest, defScope s_Shelf_greatest, [.non], []⟩
def d_Shelf_wishes : He.DefD := ⟨("Shelf", some "wishes"), "wishes", "Shelf.wishes", defArgs s_Shelf_wishes, defBody s_Shelf_wishes, defScope s_Shelf_wishes, [], []⟩
def d_Post_init : He.DefD := ⟨("Post", some "__init__"), "__init__", "Post.__init__", defArgs s_Post_init, defBody s_Post_init, defScope s_Post_init, [], []⟩
def d_Post_need_hand : He.DefD := ⟨("Post", some "need_hand"), "need_hand", "Post.need_hand", defArgs s_Post_need_hand, defBody s_Post_need_hand, defScope s_Post_need_hand, [], []⟩
def d_Post_need_staying : He.DefD := ⟨("Post", some "need_staying"), "need_staying", "Post.need_staying", defArgs s_Post_need_staying, defBody s_Post_need_staying, defScope s_Post_need_staying, [], []⟩
def d_Post_need_near : He.DefD := ⟨("Post", some "need_near"), "need_near", "Post.need_near", defArgs s_Post_need_near, defBody s_Post_need_near, defScope s_Post_need_near, [], []⟩
def d_Post_news_of_wishes : He.DefD := ⟨("Post", some "news_of_wishes"), "news_of_wishes", "Post.news_of_wishes", defArgs s_Post_news_of_wishes, defBody s_Post_news_of_wishes, defScope s_Post_news_of_wishes, [], []⟩
def d_Post_put_on : He.DefD := ⟨("Post", some "put_on"), "put_on", "Post.put_on", defArgs s_Post_put_on, defBody s_Post_put_on, defScope s_Post_put_on, [], []⟩
def d_Post_take_off : He.DefD := ⟨("Post", some "take_off"), "take_off", "Post.take_off", defArgs s_Post_take_off, defBody s_Post_take_off, defScope s_Post_take_off, [], []⟩
def d_Post_come : He.DefD := ⟨("Post", some "come"), "come", "Post.come", defArgs s_Post_come, defBody s_Post_come, defScope s_Post_come, [], []⟩
def d_Post_go : He.DefD := ⟨("Post", some "go"), "go", "Post.go", defArgs s_Post_go, defBody s_Post_go, defScope s_Post_go, [], []⟩
def d_Post_want : He.DefD := ⟨("Post", some "want"), "want", "Post.want", defArgs s_Post_want, defBody s_Post_want, defScope s_Post_want, [], []⟩
def d_Post_unwant : He.DefD := ⟨("Post", some "unwant"), "unwant", "Post.unwant", defArgs s_Post_unwant, defBody s_Post_unwant, defScope s_Post_unwant, [], []⟩
def d_Post_hear : He.DefD := ⟨("Post", some "hear"), "hear", "Post.hear", defArgs s_Post_hear, defBody s_Post_hear, defScope s_Post_hear, [], []⟩
def d_Post_known : He.DefD := ⟨("Post", some "known"), "known", "Post.known", defArgs s_Post_known, defBody s_Post_known, defScope s_Post_known, [], []⟩
def d_Post_said : He.DefD := ⟨("Post", some "said"), "said", "Post.said", defArgs s_Post_said, defBody s_Post_said, defScope s_Post_said, [], []⟩
def d_law_pile : He.DefD := ⟨("_law_pile", none), "_law_pile", "_law_pile", defArgs s_law_pile, defBody s_law_pile, defScope s_law_pile, [], []⟩
def d_law_take : He.DefD := ⟨("_law_take", none), "_law_take", "_law_take", defArgs s_law_take, defBody s_law_take, defScope s_law_take, [], []⟩
def d_law_texts : He.DefD := ⟨("_law_texts", none), "_law_texts", "_law_texts", defArgs s_law_texts, defBody s_law_texts, defScope s_law_texts, [], []⟩
def d_law_number : He.DefD := ⟨("_law_number", none), "_law_number", "_law_number", defArgs s_law_number, defBody s_law_number, defScope s_law_number, [], []⟩
def d_law_wish : He.DefD := ⟨("_law_wish", none), "_law_wish", "_law_wish", defArgs s_law_wish, defBody s_law_wish, defScope s_law_wish, [], []⟩
def d_law_near : He.DefD := ⟨("_law_near", none), "_law_near", "_law_near", defArgs s_law_near, defBody s_law_near, defScope s_law_near, [], []⟩
def d_law_deed : He.DefD := ⟨("_law_deed", none), "_law_deed", "_law_deed", defArgs s_law_deed, defBody s_law_deed, defScope s_law_deed, [], []⟩
def d_law_base : He.DefD := ⟨("_law_base", none), "_law_base", "_law_base", defArgs s_law_base, defBody s_law_base, defScope s_law_base, [], []⟩
def d_law_all_covered : He.DefD := ⟨("_law_all_covered", none), "_law_all_covered", "_law_all_covered", defArgs s_law_all_covered, defBody s_law_all_covered, defScope s_law_all_covered, [], []⟩
def d_law_heard_right : He.DefD := ⟨("_law_heard_right", none), "_law_heard_right", "_law_heard_right", defArgs s_law_heard_right, defBody s_law_heard_right, defScope s_law_heard_right, [], []⟩
def d_law_said_right : He.DefD := ⟨("_law_said_right", none), "_law_said_right", "_law_said_right", defArgs s_law_said_right, defBody s_law_said_right, defScope s_law_said_right, [], []⟩
def d_law : He.DefD := ⟨("law", none), "law", "law", defArgs s_law, defBody s_law, defScope s_law, [], []⟩
def fn : List He.DefD := [d_is_whole, d_is_span, d_is_field, d_are_parts, d_is_wish, d_does_cover, d_law_covers, d_rank, d_is_name, d_is_count, d_is_letter, d_look_wishes, d_unlike, d_is_below, d_greatest_of, d_look_holder, d_look_unlike, d_change, d_Shelf_init, d_Shelf_put, d_Shelf_take, d_Shelf_greatest, d_Shelf_wishes, d_Post_init, d_Post_need_hand, d_Post_need_staying, d_Post_need_near, d_Post_news_of_wishes, d_Post_put_on, d_Post_take_off, d_Post_come, d_Post_go, d_Post_want, d_Post_unwant, d_Post_hear, d_Post_known, d_Post_said, d_law_pile, d_law_take, d_law_texts, d_law_number, d_law_wish, d_law_near, d_law_deed, d_law_base, d_law_all_covered, d_law_heard_right, d_law_said_right, d_law]
def fa1 : List He.Fa := [.free "isinstance", .free "len", .free "all", .free "sorted", .free "int", .free "bool", .free "str", .free "tuple", .free "list", .free "range", .str "LETTERS" lettersS, .str "SMALL" lettersS, .str "SIGNS" signsS, .int "LONGEST_wishes" 8, .int "LONGEST_shelves" 15, .cls "Shelf", .cls "Post", .noat "Shelf" "lists", .noat "Shelf" "many", .noat "Post" "own", .noat "Post" "near", .noat "Post" "shelf", .noat "Post" "marked", .noat "Post" "tellings", .noat "Post" "spoken", .glo "is_whole", .glo "is_span", .glo "is_field", .glo "are_parts", .glo "is_wish", .glo "does_cover", .glo "_law_covers", .glo "rank", .glo "is_name", .glo "is_count", .glo "is_letter", .glo "look_wishes", .glo "unlike", .glo "is_below", .glo "greatest_of"]
def fa2 : List He.Fa := [.glo "look_holder", .glo "look_unlike", .glo "change", .meth "Shelf" "put", .meth "Shelf" "take", .meth "Shelf" "greatest", .meth "Shelf" "wishes", .meth "Post" "need_hand", .meth "Post" "need_staying", .meth "Post" "need_near", .meth "Post" "news_of_wishes", .meth "Post" "put_on", .meth "Post" "take_off", .meth "Post" "come", .meth "Post" "go", .meth "Post" "want", .meth "Post" "unwant", .meth "Post" "hear", .meth "Post" "known", .meth "Post" "said", .glo "_law_pile", .glo "_law_take", .glo "_law_texts", .glo "_law_number", .glo "_law_wish", .glo "_law_near", .glo "_law_deed", .glo "_law_base", .glo "_law_all_covered", .glo "_law_heard_right", .glo "_law_said_right", .glo "law", .glo "Shelf", .mkr "Shelf", .glo "Post", .mkr "Post"]
def fa : List He.Fa := fa1 ++ fa2
def loose1 : List Str := ["_wall", "NewsError", "NoWish", "NoPiece", "NoName", "Twice", "NotWanted", "NoRoad", "NoHand", "NoLetter", "is_whole", "is_span", "LETTERS", "LONGEST_wishes", "is_field", "are_parts", "is_wish", "is_piece", "does_want", "does_cover", "rank", "SMALL", "is_name", "is_count", "is_way", "is_news", "is_marks", "is_kept", "is_letter", "look_wishes"]
def loose2 : List Str := ["unlike", "is_below", "greatest_of", "SIGNS", "LONGEST_shelves", "look_holder", "look_unlike", "change", "Shelf", "Post", "_law_pile", "_law_take", "_law_texts", "_law_number", "_law_wish", "_law_near", "_law_deed", "_law_covers", "_law_base", "_law_all_covered", "_law_heard_right", "_law_said_right"]
def loose : List Str := loose1 ++ loose2
abbrev Rw : PySem.W.OpenRow := PySem.W.OpenLaw.row PySem.Challenge.rw_newsways_k33_whole_letters_lead_to_what
abbrev hk : PySem.W.Hook := He.hookD 5 fa fn
def ob (s : PySem.W.SharedT) : He.AlD := He.obsDG 5 fa fn (HandSHeadRun.getT s)
theorem ob_eq (s : PySem.W.SharedT) : ob s = hk.obs s.abs := He.obsDG_eq (HandSHeadRun.getT_eq s)
theorem head_run (w : World) : HandSHeadRun.RunEq Rw (PySem.W.view Rw.prog [60]) hk ob 40000 loose w := by
  intro os
  kernel_rfl
end K33
set_option maxHeartbeats 0
/-! K31: the join. -/
namespace K33
open PySem PySem.Spec PyProof.Rows L2
theorem txt {K : PySem.W.Frag} {h : Heap} {mg : Str → Option Value} (X : K.In h) (G : h.Ns mainGlobals mg) (c : He.SaysD fa fn K) : Txt K mg (He.ga K "Shelf") (He.ga K "Post") where
  n_isinstance := He.free_ok X G (c.fact 0 rfl)
  n_len := He.free_ok X G (c.fact 1 rfl)
  n_all := He.free_ok X G (c.fact 2 rfl)
  n_sorted := He.free_ok X G (c.fact 3 rfl)
  n_int := He.free_ok X G (c.fact 4 rfl)
  n_bool := He.free_ok X G (c.fact 5 rfl)
  n_str := He.free_ok X G (c.fact 6 rfl)
  n_tuple := He.free_ok X G (c.fact 7 rfl)
  n_list := He.free_ok X G (c.fact 8 rfl)
  n_range := He.free_ok X G (c.fact 9 rfl)
  gLETTERS := He.str_ok X G (c.fact 10 rfl)
  gSMALL := He.str_ok X G (c.fact 11 rfl)
  gSIGNS := He.str_ok X G (c.fact 12 rfl)
  gLONGEST_wishes := He.int_ok X G (c.fact 13 rfl)
  gLONGEST_shelves := He.int_ok X G (c.fact 14 rfl)
  clShelf := He.cls_ok (c.fact 15 rfl)
  clPost := He.cls_ok (c.fact 16 rfl)
  a_lists := He.noat_ok (c.fact 17 rfl)
  a_many := He.noat_ok (c.fact 18 rfl)
  a_own := He.noat_ok (c.fact 19 rfl)
  a_near := He.noat_ok (c.fact 20 rfl)
  a_shelf := He.noat_ok (c.fact 21 rfl)
  a_marked := He.noat_ok (c.fact 22 rfl)
  a_tellings := He.noat_ok (c.fact 23 rfl)
  a_spoken := He.noat_ok (c.fact 24 rfl)
theorem facts {P : Program} {w : World} {K : PySem.W.Frag} {h : Heap} {mg : Str → Option Value} {f : Addr} (X : K.In h) (G : h.Ns mainGlobals mg) (hfa : mg ("law" : Str) = some (.ref f)) (c : He.SaysD fa fn K) :
    ∃ fd : FuncData, (∀ (s : Shared) (v : Value), BindsTo s fd ⟨[v], []⟩ [("script", v)]) ∧ ∀ base : Heap, K.In base → base.Ns mainGlobals mg → FnOk P w K mg base CX0 10 f fd ["script"] (spLaw K) := by
  have T := txt X G c
  obtain ⟨fd_is_whole, F_is_whole⟩ := c.def_ 0 (d := d_is_whole) rfl
  obtain ⟨fd_is_span, F_is_span⟩ := c.def_ 1 (d := d_is_span) rfl
  obtain ⟨fd_is_field, F_is_field⟩ := c.def_ 2 (d := d_is_field) rfl
  obtain ⟨fd_are_parts, F_are_parts⟩ := c.def_ 3 (d := d_are_parts) rfl
  obtain ⟨fd_is_wish, F_is_wish⟩ := c.def_ 4 (d := d_is_wish) rfl
  obtain ⟨fd_does_cover, F_does_cover⟩ := c.def_ 5 (d := d_does_cover) rfl
  obtain ⟨fd_law_covers, F_law_covers⟩ := c.def_ 6 (d := d_law_covers) rfl
  obtain ⟨fd_rank, F_rank⟩ := c.def_ 7 (d := d_rank) rfl
  obtain ⟨fd_is_name, F_is_name⟩ := c.def_ 8 (d := d_is_name) rfl
  obtain ⟨fd_is_count, F_is_count⟩ := c.def_ 9 (d := d_is_count) rfl
  obtain ⟨fd_is_letter, F_is_letter⟩ := c.def_ 10 (d := d_is_letter) rfl
  obtain ⟨fd_look_wishes, F_look_wishes⟩ := c.def_ 11 (d := d_look_wishes) rfl
  obtain ⟨fd_unlike, F_unlike⟩ := c.def_ 12 (d := d_unlike) rfl
  obtain ⟨fd_is_below, F_is_below⟩ := c.def_ 13 (d := d_is_below) rfl
  obtain ⟨fd_greatest_of, F_greatest_of⟩ := c.def_ 14 (d := d_greatest_of) rfl
  obtain ⟨fd_look_holder, F_look_holder⟩ := c.def_ 15 (d := d_look_holder) rfl
  obtain ⟨fd_look_unlike, F_look_unlike⟩ := c.def_ 16 (d := d_look_unlike) rfl
  obtain ⟨fd_change, F_change⟩ := c.def_ 17 (d := d_change) rfl
  obtain ⟨fd_Shelf_init, F_Shelf_init⟩ := c.def_ 18 (d := d_Shelf_init) rfl
  obtain ⟨fd_Shelf_put, F_Shelf_put⟩ := c.def_ 19 (d := d_Shelf_put) rfl
  obtain ⟨fd_Shelf_take, F_Shelf_take⟩ := c.def_ 20 (d := d_Shelf_take) rfl
  obtain ⟨fd_Shelf_greatest, F_Shelf_greatest⟩ := c.def_ 21 (d := d_Shelf_greatest) rfl
  obtain ⟨fd_Shelf_wishes, F_Shelf_wishes⟩ := c.def_ 22 (d := d_Shelf_wishes) rfl
  obtain ⟨fd_Post_init, F_Post_init⟩ := c.def_ 23 (d := d_Post_init) rfl
  obtain ⟨fd_Post_need_hand, F_Post_need_hand⟩ := c.def_ 24 (d := d_Post_need_hand) rfl
  obtain ⟨fd_Post_need_staying, F_Post_need_staying⟩ := c.def_ 25 (d := d_Post_need_staying) rfl
  obtain ⟨fd_Post_need_near, F_Post_need_near⟩ := c.def_ 26 (d := d_Post_need_near) rfl
  obtain ⟨fd_Post_news_of_wishes, F_Post_news_of_wishes⟩ := c.def_ 27 (d := d_Post_news_of_wishes) rfl
  obtain ⟨fd_Post_put_on, F_Post_put_on⟩ := c.def_ 28 (d := d_Post_put_on) rfl
  obtain ⟨fd_Post_take_off, F_Post_take_off⟩ := c.def_ 29 (d := d_Post_take_off) rfl
  obtain ⟨fd_Post_come, F_Post_come⟩ := c.def_ 30 (d := d_Post_come) rfl
  obtain ⟨fd_Post_go, F_Post_go⟩ := c.def_ 31 (d := d_Post_go) rfl
  obtain ⟨fd_Post_want, F_Post_want⟩ := c.def_ 32 (d := d_Post_want) rfl
  obtain ⟨fd_Post_unwant, F_Post_unwant⟩ := c.def_ 33 (d := d_Post_unwant) rfl
  obtain ⟨fd_Post_hear, F_Post_hear⟩ := c.def_ 34 (d := d_Post_hear) rfl
  obtain ⟨fd_Post_known, F_Post_known⟩ := c.def_ 35 (d := d_Post_known) rfl
  obtain ⟨fd_Post_said, F_Post_said⟩ := c.def_ 36 (d := d_Post_said) rfl
  obtain ⟨fd_law_pile, F_law_pile⟩ := c.def_ 37 (d := d_law_pile) rfl
  obtain ⟨fd_law_take, F_law_take⟩ := c.def_ 38 (d := d_law_take) rfl
  obtain ⟨fd_law_texts, F_law_texts⟩ := c.def_ 39 (d := d_law_texts) rfl
  obtain ⟨fd_law_number, F_law_number⟩ := c.def_ 40 (d := d_law_number) rfl
  obtain ⟨fd_law_wish, F_law_wish⟩ := c.def_ 41 (d := d_law_wish) rfl
  obtain ⟨fd_law_near, F_law_near⟩ := c.def_ 42 (d := d_law_near) rfl
  obtain ⟨fd_law_deed, F_law_deed⟩ := c.def_ 43 (d := d_law_deed) rfl
  obtain ⟨fd_law_base, F_law_base⟩ := c.def_ 44 (d := d_law_base) rfl
  obtain ⟨fd_law_all_covered, F_law_all_covered⟩ := c.def_ 45 (d := d_law_all_covered) rfl
  obtain ⟨fd_law_heard_right, F_law_heard_right⟩ := c.def_ 46 (d := d_law_heard_right) rfl
  obtain ⟨fd_law_said_right, F_law_said_right⟩ := c.def_ 47 (d := d_law_said_right) rfl
  obtain ⟨fd_law, F_law⟩ := c.def_ 48 (d := d_law) rfl
  have e := hfa.symm.trans (He.glo_ok X G (c.fact 71 rfl))
  cases e
  have b := FunD.bindsA (ps := ["script"]) F_law fun _ _ _ _ _ _ us hl => match us, hl with | [_], _ => rfl
  refine ⟨fd_law, fun s v => b s [v] rfl, fun base _ _ => ?_⟩
  have c_is_whole : Cal P w K mg base "is_whole" 1 ["thing"] (spR rWhole) := ⟨_, fd_is_whole, (ok_is_whole T F_is_whole), He.glo_ok X G (c.fact 25 rfl), F_is_whole.kp, (FunD.bindsN (ps := ["thing"]) F_is_whole fun _ _ _ _ _ _ us hl => match us, hl with | [_], _ => rfl)⟩
  have c_is_count : Cal P w K mg base "is_count" 1 ["thing"] (spR rCount) := ⟨_, fd_is_count, (ok_is_count T F_is_count), He.glo_ok X G (c.fact 34 rfl), F_is_count.kp, (FunD.bindsN (ps := ["thing"]) F_is_count fun _ _ _ _ _ _ us hl => match us, hl with | [_], _ => rfl)⟩
  have c_is_field : Cal P w K mg base "is_field" 1 ["thing"] (spR rName) := ⟨_, fd_is_field, (ok_is_field T F_is_field), He.glo_ok X G (c.fact 27 rfl), F_is_field.kp, (FunD.bindsN (ps := ["thing"]) F_is_field fun _ _ _ _ _ _ us hl => match us, hl with | [_], _ => rfl)⟩
  have c_is_name : Cal P w K mg base "is_name" 1 ["thing"] (spR rName) := ⟨_, fd_is_name, (ok_is_name T F_is_name), He.glo_ok X G (c.fact 33 rfl), F_is_name.kp, (FunD.bindsN (ps := ["thing"]) F_is_name fun _ _ _ _ _ _ us hl => match us, hl with | [_], _ => rfl)⟩
  have c_is_span : Cal P w K mg base "is_span" 2 ["thing"] (spR (rSpan K)) := ⟨_, fd_is_span, (ok_is_span T c_is_whole F_is_span), He.glo_ok X G (c.fact 26 rfl), F_is_span.kp, (FunD.bindsN (ps := ["thing"]) F_is_span fun _ _ _ _ _ _ us hl => match us, hl with | [_], _ => rfl)⟩
  have c_are_parts : Cal P w K mg base "are_parts" 2 ["thing", "size"] (spR (rParts K)) := ⟨_, fd_are_parts, (ok_are_parts T c_is_field F_are_parts), He.glo_ok X G (c.fact 28 rfl), F_are_parts.kp, (FunD.bindsN (ps := ["thing", "size"]) F_are_parts fun _ _ _ _ _ _ us hl => match us, hl with | [_, _], _ => rfl)⟩
  have c_is_wish : Cal P w K mg base "is_wish" 3 ["thing"] (spR (rWish K)) := ⟨_, fd_is_wish, (ok_is_wish T c_is_span c_are_parts F_is_wish), He.glo_ok X G (c.fact 29 rfl), F_is_wish.kp, (FunD.bindsN (ps := ["thing"]) F_is_wish fun _ _ _ _ _ _ us hl => match us, hl with | [_], _ => rfl)⟩
  have c_is_letter : Cal P w K mg base "is_letter" 4 ["thing"] (spR (rLetter K)) := ⟨_, fd_is_letter, (ok_is_letter T c_is_wish F_is_letter), He.glo_ok X G (c.fact 35 rfl), F_is_letter.kp, (FunD.bindsN (ps := ["thing"]) F_is_letter fun _ _ _ _ _ _ us hl => match us, hl with | [_], _ => rfl)⟩
  have c_look_holder : Cal P w K mg base "look_holder" 1 ["holder"] (spR rHolder) := ⟨_, fd_look_holder, (ok_look_holder T F_look_holder), He.glo_ok X G (c.fact 40 rfl), F_look_holder.kp, (FunD.bindsN (ps := ["holder"]) F_look_holder fun _ _ _ _ _ _ us hl => match us, hl with | [_], _ => rfl)⟩
  have c_look_wishes : Cal P w K mg base "look_wishes" 4 ["thing"] (spR (rLookW K)) := ⟨_, fd_look_wishes, (ok_look_wishes T c_is_wish F_look_wishes), He.glo_ok X G (c.fact 36 rfl), F_look_wishes.kp, (FunD.bindsN (ps := ["thing"]) F_look_wishes fun _ _ _ _ _ _ us hl => match us, hl with | [_], _ => rfl)⟩
  have c_does_cover : Cal P w K mg base "does_cover" 1 ["one", "other"] (spR (rCov K)) := ⟨_, fd_does_cover, (ok_does_cover T F_does_cover), He.glo_ok X G (c.fact 30 rfl), F_does_cover.kp, (FunD.bindsN (ps := ["one", "other"]) F_does_cover fun _ _ _ _ _ _ us hl => match us, hl with | [_, _], _ => rfl)⟩
  have c_law_covers : Cal P w K mg base "_law_covers" 1 ["one", "other"] (spR (rCov K)) := ⟨_, fd_law_covers, (ok_law_covers T F_law_covers), He.glo_ok X G (c.fact 31 rfl), F_law_covers.kp, (FunD.bindsN (ps := ["one", "other"]) F_law_covers fun _ _ _ _ _ _ us hl => match us, hl with | [_, _], _ => rfl)⟩
  have c_rank : Cal P w K mg base "rank" 1 ["wish"] (spRank K) := ⟨_, fd_rank, (ok_rank T F_rank), He.glo_ok X G (c.fact 32 rfl), F_rank.kp, (FunD.bindsN (ps := ["wish"]) F_rank fun _ _ _ _ _ _ us hl => match us, hl with | [_], _ => rfl)⟩
  have c_unlike : Cal P w K mg base "unlike" 1 ["wishes"] (spUnlike K) := ⟨_, fd_unlike, (ok_unlike T F_unlike), He.glo_ok X G (c.fact 37 rfl), F_unlike.kp, (FunD.bindsN (ps := ["wishes"]) F_unlike fun _ _ _ _ _ _ us hl => match us, hl with | [_], _ => rfl)⟩
  have c_is_below : Cal P w K mg base "is_below" 2 ["wish", "wishes"] (spR (rBelow K)) := ⟨_, fd_is_below, (ok_is_below T c_does_cover F_is_below), He.glo_ok X G (c.fact 38 rfl), F_is_below.kp, (FunD.bindsN (ps := ["wish", "wishes"]) F_is_below fun _ _ _ _ _ _ us hl => match us, hl with | [_, _], _ => rfl)⟩
  have c_greatest_of : Cal P w K mg base "greatest_of" 4 ["wishes"] (spGr K) := ⟨_, fd_greatest_of, (ok_greatest_of T c_unlike c_is_below c_rank F_greatest_of), He.glo_ok X G (c.fact 39 rfl), F_greatest_of.kp, (FunD.bindsN (ps := ["wishes"]) F_greatest_of fun _ _ _ _ _ _ us hl => match us, hl with | [_], _ => rfl)⟩
  have c_look_unlike : Cal P w K mg base "look_unlike" 5 ["wishes"] (spR (rLookU K)) := ⟨_, fd_look_unlike, (ok_look_unlike T c_look_wishes c_unlike F_look_unlike), He.glo_ok X G (c.fact 41 rfl), F_look_unlike.kp, (FunD.bindsN (ps := ["wishes"]) F_look_unlike fun _ _ _ _ _ _ us hl => match us, hl with | [_], _ => rfl)⟩
  have c_change : Cal P w K mg base "change" 1 ["ahead", "behind"] (spAny (rChange K)) := ⟨_, fd_change, (ok_change T F_change), He.glo_ok X G (c.fact 42 rfl), F_change.kp, (FunD.bindsN (ps := ["ahead", "behind"]) F_change fun _ _ _ _ _ _ us hl => match us, hl with | [_, _], _ => rfl)⟩
  have c_Shelf_init : KCal P w K mg base (He.ga K "Shelf") "Shelf" 1 ["self"] (spShInit P w (He.ga K "Shelf")) := ⟨_, fd_Shelf_init, (ok_Shelf_init T F_Shelf_init), He.mkr_ok (c.fact 73 rfl), He.glo_ok X G (c.fact 72 rfl), (FunD.bindsN (ps := ["self"]) F_Shelf_init fun _ _ _ _ _ _ us hl => match us, hl with | [_], _ => rfl)⟩
  obtain ⟨ds, dv, bi⟩ := FunD.binds1 (ps := ["self", "beside"]) F_Shelf_greatest 1 0 (List.cons_ne_nil _ _) rfl fun T kV doc pm an cdv ct us its h1 h2 => match us, its, h1, h2 with | [_], [_], _, _ => ⟨_, rfl, rfl⟩
  have c_Shelf_greatest : MCal P w K mg base (He.ga K "Shelf") "greatest" 5 ["self", "beside"] (spGreat P w K (He.ga K "Shelf")) [.non] := ⟨_, fd_Shelf_greatest, ds, (ok_Shelf_greatest T c_look_holder c_greatest_of F_Shelf_greatest), He.meth_ok (c.fact 45 rfl), bi, dv⟩
  obtain ⟨its, kb⟩ := FunD.kbindsD (ps := ["self", "beside"]) F_Shelf_greatest 1 ["beside"] (fun us _ ws => us ++ ws) (List.cons_ne_nil _ _) (fun r1 _ r3 => r1.append r3) fun T kV doc pm an cdv ct us its ws h1 h2 h3 => match us, its, ws, h1, h2, h3 with | [_], [_], [_], _, _, _ => ⟨_, rfl, rfl⟩
  have c_Shelf_greatest_kw : WCal P w K mg base (He.ga K "Shelf") "greatest" "beside" 5 ["self", "beside"] (spGreat P w K (He.ga K "Shelf")) := ⟨_, fd_Shelf_greatest, _, _, (ok_Shelf_greatest T c_look_holder c_greatest_of F_Shelf_greatest), He.meth_ok (c.fact 45 rfl), kb, fun _ _ => rfl⟩
  have c_Shelf_wishes : MCal P w K mg base (He.ga K "Shelf") "wishes" 5 ["self", "holder"] (spShWishes P w K (He.ga K "Shelf")) [] := ⟨_, fd_Shelf_wishes, [], (ok_Shelf_wishes T c_look_holder c_rank F_Shelf_wishes), He.meth_ok (c.fact 46 rfl), (FunD.bindsN (ps := ["self", "holder"]) F_Shelf_wishes fun _ _ _ _ _ _ us hl => match us, hl with | [_, _], _ => rfl), .nil⟩
  have c_Shelf_put : MCal P w K mg base (He.ga K "Shelf") "put" 6 ["self", "holder", "wishes"] (spPut P w K (He.ga K "Shelf")) [] := ⟨_, fd_Shelf_put, [], (ok_Shelf_put T c_look_holder c_look_unlike c_change c_Shelf_greatest F_Shelf_put), He.meth_ok (c.fact 43 rfl), (FunD.bindsN (ps := ["self", "holder", "wishes"]) F_Shelf_put fun _ _ _ _ _ _ us hl => match us, hl with | [_, _, _], _ => rfl), .nil⟩
  have c_Shelf_take : MCal P w K mg base (He.ga K "Shelf") "take" 6 ["self", "holder", "wishes"] (spTake P w K (He.ga K "Shelf")) [] := ⟨_, fd_Shelf_take, [], (ok_Shelf_take T c_look_holder c_look_unlike c_change c_Shelf_greatest F_Shelf_take), He.meth_ok (c.fact 44 rfl), (FunD.bindsN (ps := ["self", "holder", "wishes"]) F_Shelf_take fun _ _ _ _ _ _ us hl => match us, hl with | [_, _, _], _ => rfl), .nil⟩
  have c_Post_init : KCal P w K mg base (He.ga K "Post") "Post" 3 ["self", "number", "neighbours"] (spPoInit P w K (He.ga K "Shelf") (He.ga K "Post")) := ⟨_, fd_Post_init, (ok_Post_init T c_Shelf_init F_Post_init), He.mkr_ok (c.fact 75 rfl), He.glo_ok X G (c.fact 74 rfl), (FunD.bindsN (ps := ["self", "number", "neighbours"]) F_Post_init fun _ _ _ _ _ _ us hl => match us, hl with | [_, _, _], _ => rfl)⟩
  have c_Post_need_hand : MCal P w K mg base (He.ga K "Post") "need_hand" 2 ["self", "hand"] (spR (rNeedHand K (He.ga K "Post"))) [] := ⟨_, fd_Post_need_hand, [], (ok_Post_need_hand T c_is_name F_Post_need_hand), He.meth_ok (c.fact 47 rfl), (FunD.bindsN (ps := ["self", "hand"]) F_Post_need_hand fun _ _ _ _ _ _ us hl => match us, hl with | [_, _], _ => rfl), .nil⟩
  have c_Post_need_staying : MCal P w K mg base (He.ga K "Post") "need_staying" 3 ["self", "hand"] (spR (rNeedHand K (He.ga K "Post"))) [] := ⟨_, fd_Post_need_staying, [], (ok_Post_need_staying T c_Post_need_hand F_Post_need_staying), He.meth_ok (c.fact 48 rfl), (FunD.bindsN (ps := ["self", "hand"]) F_Post_need_staying fun _ _ _ _ _ _ us hl => match us, hl with | [_, _], _ => rfl), .nil⟩
  have c_Post_need_near : MCal P w K mg base (He.ga K "Post") "need_near" 2 ["self", "neighbour"] (spR (rNeedNear K (He.ga K "Post"))) [] := ⟨_, fd_Post_need_near, [], (ok_Post_need_near T c_is_count F_Post_need_near), He.meth_ok (c.fact 49 rfl), (FunD.bindsN (ps := ["self", "neighbour"]) F_Post_need_near fun _ _ _ _ _ _ us hl => match us, hl with | [_, _], _ => rfl), .nil⟩
  have c_Post_known : MCal P w K mg base (He.ga K "Post") "known" 6 ["self", "neighbour"] (spKnown P w K (He.ga K "Shelf") (He.ga K "Post")) [] := ⟨_, fd_Post_known, [], (ok_Post_known T c_Post_need_near c_Shelf_wishes F_Post_known), He.meth_ok (c.fact 58 rfl), (FunD.bindsN (ps := ["self", "neighbour"]) F_Post_known fun _ _ _ _ _ _ us hl => match us, hl with | [_, _], _ => rfl), .nil⟩
  have c_Post_said : MCal P w K mg base (He.ga K "Post") "said" 3 ["self", "neighbour"] (spSaid P w K (He.ga K "Shelf") (He.ga K "Post")) [] := ⟨_, fd_Post_said, [], (ok_Post_said T c_Post_need_near F_Post_said), He.meth_ok (c.fact 59 rfl), (FunD.bindsN (ps := ["self", "neighbour"]) F_Post_said fun _ _ _ _ _ _ us hl => match us, hl with | [_, _], _ => rfl), .nil⟩
  have c_Post_come : MCal P w K mg base (He.ga K "Post") "come" 2 ["self", "hand"] (spCome P w K (He.ga K "Shelf") (He.ga K "Post")) [] := ⟨_, fd_Post_come, [], (ok_Post_come T c_is_name F_Post_come), He.meth_ok (c.fact 53 rfl), (FunD.bindsN (ps := ["self", "hand"]) F_Post_come fun _ _ _ _ _ _ us hl => match us, hl with | [_, _], _ => rfl), .nil⟩
  have c_Post_news_of_wishes : MCal P w K mg base (He.ga K "Post") "news_of_wishes" 6 ["self", "near"] (spNews P w K (He.ga K "Shelf") (He.ga K "Post")) [] := ⟨_, fd_Post_news_of_wishes, [], (ok_Post_news T c_Shelf_greatest_kw F_Post_news_of_wishes), He.meth_ok (c.fact 50 rfl), (FunD.bindsN (ps := ["self", "near"]) F_Post_news_of_wishes fun _ _ _ _ _ _ us hl => match us, hl with | [_, _], _ => rfl), .nil⟩
  have c_Post_put_on : MCal P w K mg base (He.ga K "Post") "put_on" 7 ["self", "holder", "wishes"] (spPutOn P w K (He.ga K "Shelf") (He.ga K "Post")) [] := ⟨_, fd_Post_put_on, [], (ok_Post_put_on T c_Shelf_put c_Post_news_of_wishes F_Post_put_on), He.meth_ok (c.fact 51 rfl), (FunD.bindsN (ps := ["self", "holder", "wishes"]) F_Post_put_on fun _ _ _ _ _ _ us hl => match us, hl with | [_, _, _], _ => rfl), .nil⟩
  have c_Post_take_off : MCal P w K mg base (He.ga K "Post") "take_off" 7 ["self", "holder", "wishes"] (spTakeOff P w K (He.ga K "Shelf") (He.ga K "Post")) [] := ⟨_, fd_Post_take_off, [], (ok_Post_take_off T c_Shelf_take c_Post_news_of_wishes F_Post_take_off), He.meth_ok (c.fact 52 rfl), (FunD.bindsN (ps := ["self", "holder", "wishes"]) F_Post_take_off fun _ _ _ _ _ _ us hl => match us, hl with | [_, _, _], _ => rfl), .nil⟩
  have c_Post_go : MCal P w K mg base (He.ga K "Post") "go" 8 ["self", "hand"] (spGo P w K (He.ga K "Shelf") (He.ga K "Post")) [] := ⟨_, fd_Post_go, [], (ok_Post_go T c_Post_need_staying c_Shelf_wishes c_Post_take_off F_Post_go), He.meth_ok (c.fact 54 rfl), (FunD.bindsN (ps := ["self", "hand"]) F_Post_go fun _ _ _ _ _ _ us hl => match us, hl with | [_, _], _ => rfl), .nil⟩
  have c_Post_want : MCal P w K mg base (He.ga K "Post") "want" 8 ["self", "hand", "wish"] (spWant P w K (He.ga K "Shelf") (He.ga K "Post")) [] := ⟨_, fd_Post_want, [], (ok_Post_want T c_is_wish c_Post_need_staying c_Shelf_wishes c_Post_put_on F_Post_want), He.meth_ok (c.fact 55 rfl), (FunD.bindsN (ps := ["self", "hand", "wish"]) F_Post_want fun _ _ _ _ _ _ us hl => match us, hl with | [_, _, _], _ => rfl), .nil⟩
  have c_Post_unwant : MCal P w K mg base (He.ga K "Post") "unwant" 8 ["self", "hand", "wish"] (spUnwant P w K (He.ga K "Shelf") (He.ga K "Post")) [] := ⟨_, fd_Post_unwant, [], (ok_Post_unwant T c_is_wish c_Post_need_staying c_Shelf_wishes c_Post_take_off F_Post_unwant), He.meth_ok (c.fact 56 rfl), (FunD.bindsN (ps := ["self", "hand", "wish"]) F_Post_unwant fun _ _ _ _ _ _ us hl => match us, hl with | [_, _, _], _ => rfl), .nil⟩
  have c_Post_hear : MCal P w K mg base (He.ga K "Post") "hear" 8 ["self", "neighbour", "letter"] (spHear P w K (He.ga K "Shelf") (He.ga K "Post")) [] := ⟨_, fd_Post_hear, [], (ok_Post_hear T c_is_letter c_Post_need_near c_Post_known c_Post_put_on c_Post_take_off F_Post_hear), He.meth_ok (c.fact 57 rfl), (FunD.bindsN (ps := ["self", "neighbour", "letter"]) F_Post_hear fun _ _ _ _ _ _ us hl => match us, hl with | [_, _, _], _ => rfl), .nil⟩
  have c_law_pile : Cal P w K mg base "_law_pile" 1 ["script"] (spPile K) := ⟨_, fd_law_pile, (ok_law_pile T F_law_pile), He.glo_ok X G (c.fact 60 rfl), F_law_pile.kp, (FunD.bindsN (ps := ["script"]) F_law_pile fun _ _ _ _ _ _ us hl => match us, hl with | [_], _ => rfl)⟩
  have c_law_take : Cal P w K mg base "_law_take" 1 ["pile", "many"] (spTk K) := ⟨_, fd_law_take, (ok_law_take T F_law_take), He.glo_ok X G (c.fact 61 rfl), F_law_take.kp, (FunD.bindsN (ps := ["pile", "many"]) F_law_take fun _ _ _ _ _ _ us hl => match us, hl with | [_, _], _ => rfl)⟩
  have c_law_texts : Cal P w K mg base "_law_texts" 2 ["pile", "many"] (spTexts K) := ⟨_, fd_law_texts, (ok_law_texts T c_law_take F_law_texts), He.glo_ok X G (c.fact 62 rfl), F_law_texts.kp, (FunD.bindsN (ps := ["pile", "many"]) F_law_texts fun _ _ _ _ _ _ us hl => match us, hl with | [_, _], _ => rfl)⟩
  have c_law_number : Cal P w K mg base "_law_number" 2 ["pile"] (spNum K) := ⟨_, fd_law_number, (ok_law_number T c_law_take F_law_number), He.glo_ok X G (c.fact 63 rfl), F_law_number.kp, (FunD.bindsN (ps := ["pile"]) F_law_number fun _ _ _ _ _ _ us hl => match us, hl with | [_], _ => rfl)⟩
  have c_law_wish : Cal P w K mg base "_law_wish" 3 ["pile", "fields"] (spWishL K) := ⟨_, fd_law_wish, (ok_law_wish T c_law_take c_law_number F_law_wish), He.glo_ok X G (c.fact 64 rfl), F_law_wish.kp, (FunD.bindsN (ps := ["pile", "fields"]) F_law_wish fun _ _ _ _ _ _ us hl => match us, hl with | [_, _], _ => rfl)⟩
  have c_law_near : Cal P w K mg base "_law_near" 2 ["pile", "own"] (spNear K) := ⟨_, fd_law_near, (ok_law_near T c_law_take F_law_near), He.glo_ok X G (c.fact 65 rfl), F_law_near.kp, (FunD.bindsN (ps := ["pile", "own"]) F_law_near fun _ _ _ _ _ _ us hl => match us, hl with | [_, _], _ => rfl)⟩
  have c_law_base : Cal P w K mg base "_law_base" 1 ["hands", "known", "beside"] (spBase K) := ⟨_, fd_law_base, (ok_law_base T F_law_base), He.glo_ok X G (c.fact 67 rfl), F_law_base.kp, (FunD.bindsN (ps := ["hands", "known", "beside"]) F_law_base fun _ _ _ _ _ _ us hl => match us, hl with | [_, _, _], _ => rfl)⟩
  have c_law_all_covered : Cal P w K mg base "_law_all_covered" 2 ["wishes", "heard"] (spR (rAllCov K)) := ⟨_, fd_law_all_covered, (ok_law_all_covered T c_law_covers F_law_all_covered), He.glo_ok X G (c.fact 68 rfl), F_law_all_covered.kp, (FunD.bindsN (ps := ["wishes", "heard"]) F_law_all_covered fun _ _ _ _ _ _ us hl => match us, hl with | [_, _], _ => rfl)⟩
  have c_law_heard_right : Cal P w K mg base "_law_heard_right" 3 ["letters", "heard", "before", "after"] (spHeard K) := ⟨_, fd_law_heard_right, (ok_law_heard_right T c_law_all_covered F_law_heard_right), He.glo_ok X G (c.fact 69 rfl), F_law_heard_right.kp, (FunD.bindsN (ps := ["letters", "heard", "before", "after"]) F_law_heard_right fun _ _ _ _ _ _ us hl => match us, hl with | [_, _, _, _], _ => rfl)⟩
  have c_law_said_right : Cal P w K mg base "_law_said_right" 3 ["said", "heard", "base"] (spR (rSaid K)) := ⟨_, fd_law_said_right, (ok_law_said_right T c_law_covers c_law_all_covered F_law_said_right), He.glo_ok X G (c.fact 70 rfl), F_law_said_right.kp, (FunD.bindsN (ps := ["said", "heard", "base"]) F_law_said_right fun _ _ _ _ _ _ us hl => match us, hl with | [_, _, _], _ => rfl)⟩
  have c_law_deed : Cal P w K mg base "_law_deed" 9 ["pile", "post", "hands", "known", "names", "wishes"] (spDeed P w K (He.ga K "Shelf") (He.ga K "Post")) := ⟨_, fd_law_deed, (ok_law_deed T c_law_take c_Post_hear c_Post_come c_Post_go c_Post_want c_Post_unwant F_law_deed), He.glo_ok X G (c.fact 66 rfl), F_law_deed.kp, (FunD.bindsN (ps := ["pile", "post", "hands", "known", "names", "wishes"]) F_law_deed fun _ _ _ _ _ _ us hl => match us, hl with | [_, _, _, _, _, _], _ => rfl)⟩
  exact ok_law T c_law_pile c_law_take c_law_texts c_law_wish c_law_near c_Post_init c_law_deed c_law_base c_law_heard_right c_law_said_right c_Post_said F_law
end K33
open PySem PySem.W PySem.Calls PyProof.Rows
theorem PySem.Challenge.cw_newsways_k33_whole_letters_lead_to_what_holds : PySem.Challenge.rw_newsways_k33_whole_letters_lead_to_what.Holds := by
  w_on; o_law
  refine HandSHeadRun.head_any (r := OpenLaw.row PySem.Challenge.rw_newsways_k33_whole_letters_lead_to_what) (q := view (OpenLaw.row PySem.Challenge.rw_newsways_k33_whole_letters_lead_to_what).prog [60]) (H := K33.hk) (ob := K33.ob) (M := 40000) (loose := K33.loose) (d := HandSHeadRun.topDef (OpenLaw.row PySem.Challenge.rw_newsways_k33_whole_letters_lead_to_what).prog 60) (kwd := []) K33.ob_eq
    (by kernel_rfl) (fun s => by kernel_rfl) K33.head_run (by kernel_rfl) (by kernel_rfl) (by kernel_rfl) (by rfl) (by first | assumption | decide +kernel) (by decide +kernel) ⟨rfl, rfl, rfl, rfl, rfl, by decide +kernel⟩ ?hw ?hc
  case hw => w_witness2
  case hc =>
    refine L2.walk_ofE (l := PySem.Challenge.rw_newsways_k33_whole_letters_lead_to_what) (n := 63) (k := 10) (x := "script") (CX := L2.CX0) rfl (by decide) (by kernel_rfl) ⟨rfl, by decide, by decide⟩ ?F (fun _ _ _ _ z => z)
    intro w mg fa h Y G hmg0
    obtain ⟨K, KX, c⟩ := Y
    have hmg : mg ("law" : PySem.Str) = some (.ref fa) := by
      have e : (HandSHeadRun.topDef (OpenLaw.row PySem.Challenge.rw_newsways_k33_whole_letters_lead_to_what).prog 60).name = ("law" : PySem.Str) := by kernel_rfl
      rw [← e]
      exact hmg0
    obtain ⟨fd, hb, hF⟩ := K33.facts (P := (PySem.Challenge.rw_newsways_k33_whole_letters_lead_to_what).prog) (w := w) KX G hmg c
    exact ⟨K, fd, K33.spLaw K, KX, hb, fun H a ns hl _ hS => ⟨a, ns, rfl, hS, hl, fun _ => rfl⟩, hF⟩
