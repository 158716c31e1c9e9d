import PyProof.Rows.All
import Wide.All
import OpenK.AllK
import Wide.FinOn
import HandS.ForMost
import HandS.Evl
import HandS.Exc
import HandS.TryOnly
import HandS.TryMany
import HandS.ExcOwn
import HandS.Words
import HandS.WordsExc
import HandS.Defaults
import HandS.TupAny
import HandS.TupLe
import HandS.Star
import HandS.Wide
import HandS.IsInst
import HandS.Zip
import HandS.Walk
import HandS.Style
import HandS.Flow
import HandS.NoneIn
import HandS.RaiseMore
import KE.KDictZip
import PyProof.ListNew
import HandS.Conv
import HandS.Head2
import HandS.HeadEnd
import HandS.HeadHook4
import KE.KExcSuper
import KE.KExcInit
import HandS.ExcInit
import HandS.ExcField
import HandS.HeadWalk
import PySem.Challenge.RW_deedline_k95_whole_stands_judged_by_thei
import HandS.Lambda
import PyProof.ReprHeadsTuple
import KE.KLam
import KE.KStateDown
import Lean
import HandS.Head0
import HandS.Head1
import HandS.EndTab
section
set_option Elab.async false
set_option linter.all false
set_option maxRecDepth 100000
set_option maxHeartbeats 2000000
/-! The data layer: what a reading evaluates to as plain data (PyData: none, bools, ints, texts, lists, tuples), the heap growing. -/
namespace DL
open PySem PySem.Spec PyProof.Rows L2 Evl

section
variable {K : PySem.W.Frag} {H H' H1 H2 : Hp} {v x y : V} {d e : PyData} {vs : List V} {ds es : List PyData} {σ : L2.St} {te ta tb : TE} {a : Addr} {xs : List V}

mutual
theorem dp_ex (e : Ex H H') : ∀ (d : PyData) (v : V), Dp K H v d → Dp K H' v d
  | .none, _, h => by cases h; exact .non
  | .bool b, _, h => by cases h; exact .bl b
  | .int i, _, h => by cases h; exact .int i
  | .str x, _, h => by cases h; exact .str x
  | .list ds, _, h => by
    cases h with
    | lst hs ha => exact .lst (ex_l e hs) (dpa_ex e ds _ ha)
  | .tuple ds, _, h => by
    cases h with
    | tup hs ha => exact .tup (ex_t e hs) (dpa_ex e ds _ ha)
  | .dict _, _, h => by cases h
theorem dpa_ex (e : Ex H H') : ∀ (ds : List PyData) (vs : List V), DpAll K H vs ds → DpAll K H' vs ds
  | [], _, h => by cases h; exact .nil
  | d :: ds, _, h => by
    cases h with
    | cons h1 h2 => exact .cons (dp_ex e d _ h1) (dpa_ex e ds _ h2)
end
theorem Dpx (e : Ex H H') (h : Dp K H v d) : Dp K H' v d := dp_ex e d v h
theorem Dpax (e : Ex H H') (h : DpAll K H vs ds) : DpAll K H' vs ds := dpa_ex e ds vs h
theorem dpa_len : ∀ {vs : List V} {ds : List PyData}, DpAll K H vs ds → vs.length = ds.length
  | _, [], h => by cases h; rfl
  | _, d :: ds, h => by
    cases h with
    | cons _ h2 => exact congrArg (· + 1) (dpa_len h2)
theorem dpa_get : ∀ {vs : List V} {ds : List PyData} {i : Nat} {d : PyData}, DpAll K H vs ds → ds[i]? = some d → ∃ v, vs[i]? = some v ∧ Dp K H v d
  | _, [], i, d, h, e => by cases e
  | _, _ :: _, 0, d, h, e => by
    cases h with
    | cons h1 h2 =>
      cases e
      exact ⟨_, rfl, h1⟩
  | _, _ :: ds, i + 1, d, h, e => by
    cases h with
    | cons h1 h2 =>
      obtain ⟨v, e1, r⟩ := dpa_get (i := i) h2 (by simpa using e)
      exact ⟨v, by simpa using e1, r⟩
theorem dpa_getV : ∀ {vs : List V} {ds : List PyData} {i : Nat} {v : V}, DpAll K H vs ds → vs[i]? = some v → ∃ d, ds[i]? = some d ∧ Dp K H v d
  | _, [], i, d, h, e => by cases h; cases e
  | _, _ :: _, 0, d, h, e => by
    cases h with
    | cons h1 h2 =>
      cases e
      exact ⟨_, rfl, h1⟩
  | _, _ :: ds, i + 1, d, h, e => by
    cases h with
    | cons h1 h2 =>
      obtain ⟨v, e1, r⟩ := dpa_getV (i := i) h2 (by simpa using e)
      exact ⟨v, by simpa using e1, r⟩
theorem dpa_append : ∀ {vs ws : List V} {ds es : List PyData}, DpAll K H vs ds → DpAll K H ws es → DpAll K H (vs ++ ws) (ds ++ es)
  | _, _, [], _, h, h' => by cases h; exact h'
  | _, _, _ :: _, _, h, h' => by
    cases h with
    | cons h1 h2 => exact .cons h1 (dpa_append h2 h')
theorem dpa_take : ∀ {vs : List V} {ds : List PyData} (n : Nat), DpAll K H vs ds → DpAll K H (vs.take n) (ds.take n)
  | _, _, 0, _ => by simp only [List.take_zero]; exact .nil
  | _, [], n + 1, h => by cases h; exact .nil
  | _, _ :: _, n + 1, h => by
    cases h with
    | cons h1 h2 => exact .cons h1 (dpa_take n h2)
theorem dpa_drop : ∀ {vs : List V} {ds : List PyData} (n : Nat), DpAll K H vs ds → DpAll K H (vs.drop n) (ds.drop n)
  | _, _, 0, h => h
  | _, [], n + 1, h => by cases h; exact .nil
  | _, _ :: _, n + 1, h => by
    cases h with
    | cons h1 h2 => exact dpa_drop n h2
theorem dpa_ints : ∀ (ns : List Int), DpAll K H (ns.map V.int) (ns.map PyData.int)
  | [] => .nil
  | n :: ns => .cons (.int n) (dpa_ints ns)
theorem dpa_ints_inv : ∀ {ns : List Int} {vs : List V}, DpAll K H vs (ns.map PyData.int) → vs = ns.map V.int
  | [], _, h => by cases h; rfl
  | n :: ns, _, h => by
    cases h with
    | cons h1 h2 =>
      cases h1
      exact congrArg _ (dpa_ints_inv h2)
theorem dpa_bls_inv : ∀ {bs : List Bool} {vs : List V}, DpAll K H vs (bs.map PyData.bool) → vs = bs.map V.bl
  | [], _, h => by cases h; rfl
  | n :: ns, _, h => by
    cases h with
    | cons h1 h2 =>
      cases h1
      exact congrArg _ (dpa_bls_inv h2)

/-! ### the heap without what is hidden (M: what may change, or is being made) -/
open Classical in
noncomputable def hid (M : Addr → Prop) (H : Hp) : Hp := fun a => if M a then none else H a
theorem hid_yes {M : Addr → Prop} (h : M a) : hid M H a = none := if_pos h
theorem hid_no {M : Addr → Prop} (h : ¬ M a) : hid M H a = H a := if_neg h
theorem hid_ex {M : Addr → Prop} (e : Ex H H') : Ex (hid M H) (hid M H') := fun b o q => by
  by_cases h : M b
  · rw [hid_yes h] at q; cases q
  · rw [hid_no h] at q ⊢; exact e b o q
theorem hid_sub {M : Addr → Prop} : Ex (hid M H) H := fun b o q => by
  by_cases h : M b
  · rw [hid_yes h] at q; cases q
  · rw [hid_no h] at q; exact q
abbrev M0 : Addr → Prop := fun _ => False
theorem hid_0 : hid M0 H = H := funext fun b => hid_no (fun z => z)
/-- H stands in H1 off M, and M is taken -/
structure Ext (M : Addr → Prop) (H H1 : Hp) : Prop where
  tk : ∀ b, M b → H1 b ≠ none
  ex : Ex H (hid M H1)
theorem tkx {M : Addr → Prop} (h : ∀ b, M b → H b ≠ none) (e : Ex H H') : ∀ b, M b → H' b ≠ none := fun b hb z => by
  cases q : H b with
  | none => exact h b hb q
  | some o =>
    rw [e b o q] at z
    cases z
theorem Ext.step {M : Addr → Prop} (x : Ext M H H1) (e : Ex H1 H2) : Ext M H H2 := ⟨tkx x.tk e, x.ex.trans (hid_ex e)⟩
theorem Ext.self {M : Addr → Prop} (h : ∀ b, M b → H b ≠ none) : Ext M (hid M H) H := ⟨h, Ex.refl _⟩
theorem Ext.fresh {M : Addr → Prop} (x : Ext M H H1) {p : Addr} (hp : H1 p = none) : ¬ M p := fun h => x.tk p h hp
theorem Ext.lift {M : Addr → Prop} (x : Ext M H H1) (r : Dp K H v d) : Dp K (hid M H1) v d := Dpx x.ex r
theorem Ext.lower {M : Addr → Prop} (x : Ext M H H1) (e : Ex H' H) : Ext M H' H1 := ⟨x.tk, e.trans x.ex⟩
theorem dph (M : Addr → Prop) (e : Ex H H') (r : Dp K (hid M H) v d) : Dp K (hid M H') v d := Dpx (hid_ex e) r
theorem dpah (M : Addr → Prop) (e : Ex H H') (r : DpAll K (hid M H) vs ds) : DpAll K (hid M H') vs ds := Dpax (hid_ex e) r
theorem hsl {M : Addr → Prop} (h : SqL K (hid M H) a xs) : SqL K H a xs := ex_l hid_sub h
theorem hst {M : Addr → Prop} (h : SqT K (hid M H) a xs) : SqT K H a xs := ex_t hid_sub h
/-! ### what evaluates to which data -/
def EvD (K : PySem.W.Frag) (te : TE) (σ : L2.St) (H : Hp) (d : PyData) : Prop := ∀ M H1, Ext M H H1 → ∀ Q : VK, (∀ v H2, Ex H1 H2 → Dp K (hid M H2) v d → Q v H2) → te σ H1 Q
def EvDA (K : PySem.W.Frag) (ta : TA) (σ : L2.St) (H : Hp) (ds : List PyData) : Prop := ∀ M H1, Ext M H H1 → ∀ Q : List V → Hp → Prop, (∀ vs H2, Ex H1 H2 → DpAll K (hid M H2) vs ds → Q vs H2) → ta σ H1 Q
def EvB (_ : PySem.W.Frag) (tt : TT) (σ : L2.St) (H : Hp) (b : Bool) : Prop := ∀ M H1, Ext M H H1 → ∀ Q : Bool → Hp → Prop, (∀ H2, Ex H1 H2 → Q b H2) → tt σ H1 Q
theorem EvD.mono (e : Ex H H') (h : EvD K te σ H d) : EvD K te σ H' d := fun M H1 a Q q => h M H1 (a.lower e) Q q
theorem EvDA.mono {ta : TA} (e : Ex H H') (h : EvDA K ta σ H ds) : EvDA K ta σ H' ds := fun M H1 a Q q => h M H1 (a.lower e) Q q
theorem EvB.mono {tt : TT} {b : Bool} (e : Ex H H') (h : EvB K tt σ H b) : EvB K tt σ H' b := fun M H1 a Q q => h M H1 (a.lower e) Q q
theorem EvD.is (h : EvD K te σ H d) (q : d = e) : EvD K te σ H e := q ▸ h
theorem EvB.is {tt : TT} {a b : Bool} (h : EvB K tt σ H a) (q : a = b) : EvB K tt σ H b := q ▸ h
theorem ed_var {i : Nat} (h : σ[i]? = some (some v)) (r : Dp K H v d) : EvD K (tVar i) σ H d := fun M H1 e _ q => ⟨v, h, q v H1 (Ex.refl H1) (e.lift r)⟩
theorem ed_int {i : Int} : EvD K (tC (.int i)) σ H (.int i) := fun M H1 _ _ q => q _ H1 (Ex.refl H1) (.int i)
theorem ed_str {x : Str} : EvD K (tC (.str x)) σ H (.str x) := fun M H1 _ _ q => q _ H1 (Ex.refl H1) (.str x)
theorem ed_bl {b : Bool} : EvD K (tC (.bl b)) σ H (.bool b) := fun M H1 _ _ q => q _ H1 (Ex.refl H1) (.bl b)
theorem ed_non : EvD K (tC .non) σ H .none := fun M H1 _ _ q => q _ H1 (Ex.refl H1) .non
theorem eda_nil : EvDA K tNil σ H [] := fun M H1 _ _ q => q [] H1 (Ex.refl H1) .nil
theorem eda_cons {tr : TA} (h : EvD K te σ H d) (hr : EvDA K tr σ H ds) : EvDA K (tCons te tr) σ H (d :: ds) := fun M H1 e _ q =>
  h M H1 e _ fun v H2 e2 r => hr M H2 (e.step e2) _ fun vs H3 e3 rs => q _ H3 (e2.trans e3) (.cons (dph M e3 r) rs)
/-- *e among the items of a display: a list or a tuple -/
theorem eda_starL {tr : TA} (h : EvD K te σ H (.list es)) (hr : EvDA K tr σ H ds) : EvDA K (StX.tStar K te tr) σ H (es ++ ds) := fun M H1 e _ q =>
  h M H1 e _ fun v H2 e2 r => by
    cases r with
    | lst hs ha => exact ⟨_, _, rfl, .inr (hsl hs), hr M H2 (e.step e2) _ fun vs H3 e3 rs => q _ H3 (e2.trans e3) (dpa_append (dpah M e3 ha) rs)⟩
theorem eda_starT {tr : TA} (h : EvD K te σ H (.tuple es)) (hr : EvDA K tr σ H ds) : EvDA K (StX.tStar K te tr) σ H (es ++ ds) := fun M H1 e _ q =>
  h M H1 e _ fun v H2 e2 r => by
    cases r with
    | tup hs ha => exact ⟨_, _, rfl, .inl (hst hs), hr M H2 (e.step e2) _ fun vs H3 e3 rs => q _ H3 (e2.trans e3) (dpa_append (dpah M e3 ha) rs)⟩
theorem hid_upd {M : Addr → Prop} {p : Addr} {o : HO} (hm : ¬ M p) : hid M (upd H p o) p = some o := by rw [hid_no hm]; exact upd_same
theorem new_tup {M : Addr → Prop} {p : Addr} (hp : H p = none) (hm : ¬ M p) (r : DpAll K (hid M H) vs ds) : Dp K (hid M (upd H p (.tup vs))) (.ref p) (.tuple ds) := .tup (st_of (hid_upd hm)) (dpah M (Ex.new hp) r)
theorem new_lst {M : Addr → Prop} {p : Addr} (hp : H p = none) (hm : ¬ M p) (r : DpAll K (hid M H) vs ds) : Dp K (hid M (upd H p (.lst vs))) (.ref p) (.list ds) := .lst (sq_of (hid_upd hm)) (dpah M (Ex.new hp) r)
theorem ed_tup {ta : TA} (h : EvDA K ta σ H ds) (hl : ds.length ≤ 100000) : EvD K (tTup ta) σ H (.tuple ds) := fun M H1 e _ q =>
  h M H1 e _ fun vs H2 e2 r => ⟨sz_of (by rw [dpa_len r]; exact hl), fun p hp => q _ _ (e2.trans (Ex.new hp)) (new_tup hp ((e.step e2).fresh hp) r)⟩
theorem ed_lst {ta : TA} (h : EvDA K ta σ H ds) (hl : ds.length ≤ 100000) : EvD K (tLst ta) σ H (.list ds) := fun M H1 e _ q =>
  h M H1 e _ fun vs H2 e2 r => ⟨sz_of (by rw [dpa_len r]; exact hl), fun p hp => q _ _ (e2.trans (Ex.new hp)) (new_lst hp ((e.step e2).fresh hp) r)⟩

/-! ### operations by data -/
def RD (K : PySem.W.Frag) (r : R2) (H : Hp) (d e f : PyData) : Prop := ∀ M x y H1, Ext M H H1 → Dp K (hid M H1) x d → Dp K (hid M H1) y e → ∀ Q : VK, (∀ v H2, Ex H1 H2 → Dp K (hid M H2) v f → Q v H2) → r x y H1 Q
theorem ed_op {r : R2} {f : PyData} (ha : EvD K ta σ H d) (hb : EvD K tb σ H e) (hr : RD K r H d e f) : EvD K (tOp r ta tb) σ H f := fun M H1 e1 Q q =>
  ha M H1 e1 _ fun x H2 e2 rx => hb M H2 (e1.step e2) _ fun y H3 e3 ry => hr M x y H3 ((e1.step e2).step e3) (dph M e3 rx) ry Q fun v H4 e4 rv => q v H4 ((e2.trans e3).trans e4) rv
theorem rd_I0 {g : Int → Int → V} {i j : Int} {f : PyData} (h : ∀ H, Dp K H (g i j) f) : RD K (rI0 g) H (.int i) (.int j) f := fun M x y H1 _ rx ry Q q => by
  cases rx; cases ry
  exact ⟨i, j, rfl, rfl, q _ H1 (Ex.refl H1) (h _)⟩
theorem rd_I {C : Int → Int → Prop} {g : Int → Int → V} {i j : Int} {f : PyData} (hc : C i j) (h : ∀ H, Dp K H (g i j) f) : RD K (rI C g) H (.int i) (.int j) f := fun M x y H1 _ rx ry Q q => by
  cases rx; cases ry
  exact ⟨i, j, rfl, rfl, hc, q _ H1 (Ex.refl H1) (h _)⟩
theorem rd_add {i j : Int} : RD K (rI0 fun i j => .int (i + j)) H (.int i) (.int j) (.int (i + j)) := rd_I0 fun _ => .int _
theorem rd_sub {i j : Int} : RD K (rI0 fun i j => .int (i - j)) H (.int i) (.int j) (.int (i - j)) := rd_I0 fun _ => .int _
theorem rd_lt {i j : Int} : RD K (rI0 fun i j => .bl (decide (i < j))) H (.int i) (.int j) (.bool (decide (i < j))) := rd_I0 fun _ => .bl _
theorem rd_le {i j : Int} : RD K (rI0 fun i j => .bl (decide (i ≤ j))) H (.int i) (.int j) (.bool (decide (i ≤ j))) := rd_I0 fun _ => .bl _
theorem rd_gt {i j : Int} : RD K (rI0 fun i j => .bl (decide (j < i))) H (.int i) (.int j) (.bool (decide (j < i))) := rd_I0 fun _ => .bl _
theorem rd_ge {i j : Int} : RD K (rI0 fun i j => .bl (decide (j ≤ i))) H (.int i) (.int j) (.bool (decide (j ≤ i))) := rd_I0 fun _ => .bl _
theorem rd_eq (h1 : SeqAt.shaped d = true) (h2 : SeqAt.shaped e = true) : RD K (rEqD K) H d e (.bool (PyData.eqv d e)) := fun M x y H1 _ rx ry Q q => ⟨d, e, Dpx hid_sub rx, Dpx hid_sub ry, h1, h2, q _ H1 (Ex.refl H1) (.bl _)⟩
theorem rd_ne (h1 : SeqAt.shaped d = true) (h2 : SeqAt.shaped e = true) : RD K (rNeD K) H d e (.bool (!PyData.eqv d e)) := fun M x y H1 _ rx ry Q q => ⟨d, e, Dpx hid_sub rx, Dpx hid_sub ry, h1, h2, q _ H1 (Ex.refl H1) (.bl _)⟩
/-- t + u of tuples -/
theorem dpa_nil_r {vs : List V} (h : DpAll K H vs []) : vs = [] := by cases h; rfl
theorem rd_catT (hl : ds.length + es.length ≤ 100000) : RD K (rCatA K) H (.tuple ds) (.tuple es) (.tuple (ds ++ es)) := fun M x y H1 eM rx ry Q q => by
  cases rx with
  | tup hs ha =>
    cases ry with
    | tup ht hb =>
      have l1 := dpa_len ha
      have l2 := dpa_len hb
      refine ⟨_, _, _, _, rfl, rfl, hst hs, hst ht, sz_of (by rw [l1, l2]; exact hl), fun z => ?_, fun z1 z2 => ?_, fun z1 z2 p hp => ?_⟩
      · subst z
        have e : ds = [] := by cases ds with
          | nil => rfl
          | cons _ _ => cases l1
        subst e
        exact q _ H1 (Ex.refl H1) (.tup ht hb)
      · subst z2
        have e : es = [] := by cases es with
          | nil => rfl
          | cons _ _ => cases l2
        subst e
        rw [List.append_nil] at q
        exact q _ H1 (Ex.refl H1) (.tup hs ha)
      · exact q _ _ (Ex.new hp) (new_tup hp (eM.fresh hp) (dpa_append ha hb))
/-! ### xs[i] -/
theorem rd_ixT {i : Int} (h : atI ds i = some d) : RD K (rIx K) H (.tuple ds) (.int i) d := fun M x y H1 _ rx ry Q q => by
  cases rx with
  | tup hs ha =>
    cases ry
    unfold atI at h
    cases e : ixN ds.length i with
    | none => rw [e] at h; cases h
    | some j =>
      rw [e] at h
      obtain ⟨v, e1, r⟩ := dpa_get ha h
      exact .inr (.inl ⟨_, _, i, v, rfl, rfl, hst hs, by unfold atI; rw [dpa_len ha, e]; exact e1, q v H1 (Ex.refl H1) r⟩)
theorem rd_ixL {i : Int} (h : atI ds i = some d) : RD K (rIx K) H (.list ds) (.int i) d := fun M x y H1 _ rx ry Q q => by
  cases rx with
  | lst hs ha =>
    cases ry
    unfold atI at h
    cases e : ixN ds.length i with
    | none => rw [e] at h; cases h
    | some j =>
      rw [e] at h
      obtain ⟨v, e1, r⟩ := dpa_get ha h
      exact .inl ⟨_, _, i, v, rfl, rfl, hsl hs, by unfold atI; rw [dpa_len ha, e]; exact e1, q v H1 (Ex.refl H1) r⟩
/-! ### xs[i:j] -/
def cutD (ds : List PyData) (lo hi : Option Int) : List PyData := (ds.drop (HT.sIx ds.length 0 lo)).take (HT.sIx ds.length ds.length hi - HT.sIx ds.length 0 lo)
def rSlG (K : PySem.W.Frag) : V → Option Int → Option Int → Hp → VK → Prop := fun x lo hi H Q => rSlL K x lo hi H Q ∨ rSlA K x lo hi H Q
theorem sl_G {X : Cx} : SlR X (rSlG X.K) := sl_list.or sl_tupA
def EvO' (_ : PySem.W.Frag) (to : TO) (σ : L2.St) (H : Hp) (o : Option Int) : Prop := ∀ M H1, Ext M H H1 → ∀ Q : Option Int → Hp → Prop, (∀ H2, Ex H1 H2 → Q o H2) → to σ H1 Q
theorem eo_no : EvO' K tNoPart σ H none := fun M H1 _ _ q => q H1 (Ex.refl H1)
theorem eo_part {i : Int} (h : EvD K te σ H (.int i)) : EvO' K (tPart te) σ H (some i) := fun M H1 e _ q => h M H1 e _ fun v H2 e2 r => by
  cases r
  exact ⟨i, rfl, q H2 e2⟩
theorem dpa_cut {lo hi : Option Int} (h : DpAll K H vs ds) : DpAll K H (cutV vs lo hi) (cutD ds lo hi) := by
  unfold cutV cutD
  rw [dpa_len h]
  exact dpa_take _ (dpa_drop _ h)
theorem ed_slT {lo hi : Option Int} {tl th : TO} (h : EvD K te σ H (.tuple ds)) (hl : EvO' K tl σ H lo) (hh : EvO' K th σ H hi) : EvD K (tSl (rSlG K) te tl th) σ H (.tuple (cutD ds lo hi)) := fun M H1 e Q q =>
  h M H1 e _ fun v H2 e2 r => hl M H2 (e.step e2) _ fun H3 e3 => hh M H3 ((e.step e2).step e3) _ fun H4 e4 => by
    have e24 := e3.trans e4
    have x4 := ((e.step e2).step e3).step e4
    cases r with
    | tup hs ha =>
      refine .inr ⟨_, _, rfl, ex_t e24 (hst hs), fun z => ?_, fun z p hp => q _ _ ((e2.trans e24).trans (Ex.new hp)) (new_tup hp (x4.fresh hp) (dpa_cut (dpah M e24 ha)))⟩
      have ec : cutD ds lo hi = ds := by
        unfold cutD
        rw [dpa_len ha] at z
        rw [z.1, z.2]
        simp
      rw [ec] at q
      exact q _ H4 (e2.trans e24) (dph M e24 (.tup hs ha))
theorem ed_slL {lo hi : Option Int} {tl th : TO} (h : EvD K te σ H (.list ds)) (hl : EvO' K tl σ H lo) (hh : EvO' K th σ H hi) : EvD K (tSl (rSlG K) te tl th) σ H (.list (cutD ds lo hi)) := fun M H1 e Q q =>
  h M H1 e _ fun v H2 e2 r => hl M H2 (e.step e2) _ fun H3 e3 => hh M H3 ((e.step e2).step e3) _ fun H4 e4 => by
    have e24 := e3.trans e4
    have x4 := ((e.step e2).step e3).step e4
    cases r with
    | lst hs ha =>
      exact .inl ⟨_, _, rfl, ex_l e24 (hsl hs), fun p hp => q _ _ ((e2.trans e24).trans (Ex.new hp)) (new_lst hp (x4.fresh hp) (dpa_cut (dpah M e24 ha)))⟩
/-! ### tests, and, or, not, if .. else -/
theorem et_tst {b : Bool} (h : EvD K te σ H (.bool b)) : EvB K (tTest te) σ H b := fun M H1 e _ q => h M H1 e _ fun v H2 e2 r => by
  cases r
  exact ⟨b, rfl, q H2 e2⟩
theorem et_Bv {b : Bool} (h : EvD K te σ H (.bool b)) : EvB K (tB te) σ H b := fun M H1 e _ q => h M H1 e _ fun v H2 e2 r => by
  cases r
  exact ⟨b, rfl, q H2 e2⟩
theorem eb_and {t u : TT} {a b : Bool} (h1 : EvB K t σ H a) (h2 : a = true → EvB K u σ H b) : EvB K (tAnd t u) σ H (a && b) := fun M H1 e Q q => h1 M H1 e _ fun H2 e2 => by
  cases a with
  | true => exact h2 rfl M H2 (e.step e2) Q fun H3 e3 => q H3 (e2.trans e3)
  | false => exact q H2 e2
theorem eb_or {t u : TT} {a b : Bool} (h1 : EvB K t σ H a) (h2 : a = false → EvB K u σ H b) : EvB K (tOr t u) σ H (a || b) := fun M H1 e Q q => h1 M H1 e _ fun H2 e2 => by
  cases a with
  | true => exact q H2 e2
  | false => exact h2 rfl M H2 (e.step e2) Q fun H3 e3 => q H3 (e2.trans e3)
theorem eb_not {t : TT} {a : Bool} (h1 : EvB K t σ H a) : EvB K (tNot t) σ H (!a) := fun M H1 e _ q => h1 M H1 e _ fun H2 e2 => q H2 e2
theorem ed_and {a b : Bool} (h1 : EvD K ta σ H (.bool a)) (h2 : a = true → EvD K tb σ H (.bool b)) : EvD K (tAndV ta tb) σ H (.bool (a && b)) := fun M H1 e Q q => h1 M H1 e _ fun v H2 e2 r => by
  cases r
  refine ⟨a, rfl, ?_⟩
  cases a with
  | true => exact h2 rfl M H2 (e.step e2) Q fun v H3 e3 r => q v H3 (e2.trans e3) r
  | false => exact q _ H2 e2 (.bl false)
theorem ed_or {a b : Bool} (h1 : EvD K ta σ H (.bool a)) (h2 : a = false → EvD K tb σ H (.bool b)) : EvD K (tOrV ta tb) σ H (.bool (a || b)) := fun M H1 e Q q => h1 M H1 e _ fun v H2 e2 r => by
  cases r
  refine ⟨a, rfl, ?_⟩
  cases a with
  | true => exact q _ H2 e2 (.bl true)
  | false => exact h2 rfl M H2 (e.step e2) Q fun v H3 e3 r => q v H3 (e2.trans e3) r
theorem ed_not {a : Bool} (h1 : EvD K ta σ H (.bool a)) : EvD K (tNotV ta) σ H (.bool (!a)) := fun M H1 e _ q => h1 M H1 e _ fun v H2 e2 r => by
  cases r
  exact ⟨a, rfl, q _ H2 e2 (.bl _)⟩
theorem ed_if {t : TT} {b : Bool} (h : EvB K t σ H b) (h1 : b = true → EvD K ta σ H d) (h2 : b = false → EvD K tb σ H d) : EvD K (tIf t ta tb) σ H d := fun M H1 e Q q => h M H1 e _ fun H2 e2 => by
  cases b with
  | true => exact h1 rfl M H2 (e.step e2) Q fun v H3 e3 => q v H3 (e2.trans e3)
  | false => exact h2 rfl M H2 (e.step e2) Q fun v H3 e3 => q v H3 (e2.trans e3)
/-- a <= b <= c -/
theorem ed_chain {r r' : R2} {tc : TE} {f : PyData} {a b : Bool} (ha : EvD K ta σ H d) (hb : EvD K tb σ H e) (hr : RD K r H d e (.bool a)) (hc : a = true → EvD K tc σ H f) (hr' : a = true → RD K r' H e f (.bool b)) :
    EvD K (tChain r r' ta tb tc) σ H (.bool (a && b)) := fun M H1 e1 Q q =>
  ha M H1 e1 _ fun x H2 e2 rx => hb M H2 (e1.step e2) _ fun y H3 e3 ry => hr M x y H3 ((e1.step e2).step e3) (dph M e3 rx) ry _ fun v H4 e4 rv => by
    cases rv
    refine ⟨a, rfl, ?_⟩
    have e14 := ((e1.step e2).step e3).step e4
    have e24 := (e2.trans e3).trans e4
    cases a with
    | true => exact hc rfl M H4 e14 _ fun z H5 e5 rz => hr' rfl M y z H5 (e14.step e5) (dph M (e4.trans e5) ry) rz Q fun v H6 e6 rv => q v H6 ((e24.trans e5).trans e6) rv
    | false => exact q _ H4 e24 (.bl false)
/-! ### calls -/
/-- a promise by data: R tells the result of the arguments -/
def spG (K : PySem.W.Frag) (R : List PyData → PyData → Prop) : Sp := fun vs H Q _ => ∃ M ds d, (∀ b, M b → H b ≠ none) ∧ DpAll K (hid M H) vs ds ∧ R ds d ∧ ∀ v H', Ex H H' → Dp K (hid M H') v d → Q v H'
theorem ed_call {R : List PyData → PyData → Prop} {E : XK} {ta : TA} (h : EvDA K ta σ H ds) (hR : R ds d) : EvD K (tCall (spG K R) [] E ta) σ H d := fun M H1 e Q q =>
  h M H1 e _ fun vs H2 e2 r => ⟨M, ds, d, (e.step e2).tk, by rw [List.append_nil]; exact r, hR, fun v H3 e3 rv => q v H3 (e2.trans e3) rv⟩
/-- a call of a built-in -/
def RCD (K : PySem.W.Frag) (r : List V → Hp → VK → Prop) (H : Hp) (ds : List PyData) (d : PyData) : Prop := ∀ M vs H1, Ext M H H1 → DpAll K (hid M H1) vs ds → ∀ Q : VK, (∀ v H2, Ex H1 H2 → Dp K (hid M H2) v d → Q v H2) → r vs H1 Q
theorem ed_cb {r : List V → Hp → VK → Prop} {ta : TA} (h : EvDA K ta σ H ds) (hr : RCD K r H ds d) : EvD K (tCB r ta) σ H d := fun M H1 e Q q =>
  h M H1 e _ fun vs H2 e2 rv => hr M vs H2 (e.step e2) rv Q fun v H3 e3 rv => q v H3 (e2.trans e3) rv
theorem dpa1 {vs : List V} {d : PyData} (h : DpAll K H vs [d]) : ∃ v, vs = [v] ∧ Dp K H v d := by
  cases h with
  | cons h1 h2 => cases h2; exact ⟨_, rfl, h1⟩
theorem dpa2 {vs : List V} {d e : PyData} (h : DpAll K H vs [d, e]) : ∃ v w, vs = [v, w] ∧ Dp K H v d ∧ Dp K H w e := by
  cases h with
  | cons h1 h2 =>
    obtain ⟨w, rfl, r⟩ := dpa1 h2
    exact ⟨_, _, rfl, h1, r⟩
theorem dpa3 {vs : List V} {d e f : PyData} (h : DpAll K H vs [d, e, f]) : ∃ v w u, vs = [v, w, u] ∧ Dp K H v d ∧ Dp K H w e ∧ Dp K H u f := by
  cases h with
  | cons h1 h2 =>
    obtain ⟨w, u, rfl, r1, r2⟩ := dpa2 h2
    exact ⟨_, _, _, rfl, h1, r1, r2⟩
/-- len -/
theorem rc_lenT : RCD K (rLenS K) H [.tuple ds] (.int (ds.length : Int)) := fun M vs H1 _ r Q q => by
  obtain ⟨v, rfl, r'⟩ := dpa1 r
  cases r' with
  | tup hs ha => exact ⟨_, _, rfl, .inr (hst hs), by rw [dpa_len ha]; exact q _ H1 (Ex.refl H1) (.int _)⟩
theorem rc_lenL : RCD K (rLenS K) H [.list ds] (.int (ds.length : Int)) := fun M vs H1 _ r Q q => by
  obtain ⟨v, rfl, r'⟩ := dpa1 r
  cases r' with
  | lst hs ha => exact ⟨_, _, rfl, .inl (hsl hs), by rw [dpa_len ha]; exact q _ H1 (Ex.refl H1) (.int _)⟩
/-- tuple(list), tuple(tuple) -/
def rTupleS (K : PySem.W.Frag) : List V → Hp → VK → Prop := fun xs H Q => ∃ p ys, xs = [.ref p] ∧ ((SqL K H p ys ∧ ∀ l, H l = none → Q (.ref l) (upd H l (.tup ys))) ∨ (SqT K H p ys ∧ Q (.ref p) H))
theorem call_tupleS {X : Cx} : CallR X (.type "tuple") (rTupleS X.K) := call_tuple_of
theorem call_listS {X : Cx} : CallR X (.type "list") (rListS X.K) := call_list_of
theorem call_lenS {X : Cx} : CallR X (.builtin "len") (rLenS X.K) := call_len_seq
theorem rc_tupleL : RCD K (rTupleS K) H [.list ds] (.tuple ds) := fun M vs H1 x r Q q => by
  obtain ⟨v, rfl, r'⟩ := dpa1 r
  cases r' with
  | lst hs ha => exact ⟨_, _, rfl, .inl ⟨hsl hs, fun l hl => q _ _ (Ex.new hl) (new_tup hl (x.fresh hl) ha)⟩⟩
theorem rc_listT : RCD K (rListS K) H [.tuple ds] (.list ds) := fun M vs H1 x r Q q => by
  obtain ⟨v, rfl, r'⟩ := dpa1 r
  cases r' with
  | tup hs ha => exact ⟨_, _, rfl, .inr (hst hs), fun l hl => q _ _ (Ex.new hl) (new_lst hl (x.fresh hl) ha)⟩
theorem rc_listL : RCD K (rListS K) H [.list ds] (.list ds) := fun M vs H1 x r Q q => by
  obtain ⟨v, rfl, r'⟩ := dpa1 r
  cases r' with
  | lst hs ha => exact ⟨_, _, rfl, .inl (hsl hs), fun l hl => q _ _ (Ex.new hl) (new_lst hl (x.fresh hl) ha)⟩
/-! ### statements: at the heap H, M hidden -/
variable {D : Ends} {tu tw : TS} {M : Addr → Prop}
theorem s_asgD {i : Nat} (hM : ∀ b, M b → H b ≠ none) (h : EvD K te σ (hid M H) d) (k : ∀ v H1, Ex H H1 → Dp K (hid M H1) v d → D.nx (σ.set i (some v)) H1) : tAsg te (gName i) D σ H := h M H (.self hM) _ k
theorem s_retD (hM : ∀ b, M b → H b ≠ none) (h : EvD K te σ (hid M H) d) (k : ∀ v H1, Ex H H1 → Dp K (hid M H1) v d → D.rt v H1) : tRet te D σ H := h M H (.self hM) _ k
theorem s_dropD (hM : ∀ b, M b → H b ≠ none) (h : EvD K te σ (hid M H) d) (k : ∀ H1, Ex H H1 → D.nx σ H1) : tDrop te D σ H := h M H (.self hM) _ fun v H1 e _ => k H1 e
theorem s_ifD {t : TT} {b : Bool} (hM : ∀ b, M b → H b ≠ none) (h : EvB K t σ (hid M H) b) (h1 : b = true → ∀ H1, Ex H H1 → tu D σ H1) (h2 : b = false → ∀ H1, Ex H H1 → tw D σ H1) : tIfS t tu tw D σ H := h M H (.self hM) _ fun H1 e => by
  cases b with
  | true => exact h1 rfl H1 e
  | false => exact h2 rfl H1 e
/-! ### [e for target in xs if test] -/
/-- what is walked: a list or a tuple -/
def iSeq (K : PySem.W.Frag) (tl : TE) : TI := fun σ H R => tl σ H fun x H1 => ∃ a, x = .ref a ∧ (((∃ xs, SqL K H1 a xs) ∧ R (Itl K a) H1) ∨ ((∃ xs, SqT K H1 a xs) ∧ R (Itt K a) H1))
theorem pi_seq {X : Cx} {tg l : Expr} {tl : TE} (hl : PE X l tl) : PI X tg l (iSeq X.K tl) := by
  refine ⟨fun pins s σ H R I h => ?_⟩
  refine thn (hl.run pins s σ H _ I h) fun v s1 ⟨x, H1, I1, r1, q1⟩ => ?_
  obtain ⟨a, e, q1⟩ := q1
  subst e
  cases r1
  rcases q1 with ⟨⟨xs, hq⟩, q⟩ | ⟨⟨xs, hq⟩, q⟩
  · obtain ⟨its, rv, p, hz⟩ := I1.list hq
    refine wpAny_pyIter_list p.isList ?_
    refine ⟨s1.heap.objs.size, [s1.heap.objs.size], _, _, H1, rfl, I1.kept (t' := s1.toks) fun b o e => Heap.get?_push_of_some _ e, turn_list a _, ⟨_, Heap.get?_push_size _ rfl, rfl, rfl⟩, fun b hb => ?_, q⟩
    have e : b = s1.heap.objs.size := by simpa using hb
    subst e
    exact I1.fpOk (Nat.le_refl _) (I1.hok.fresh (Nat.le_refl _))
  · obtain ⟨its, rv, p, hz⟩ := I1.tuple hq
    refine wpAny_pyIter_tuple (show s1.heap.IsTuple a its.toArray from p) ?_
    refine ⟨s1.heap.objs.size, [s1.heap.objs.size], _, _, H1, rfl, I1.kept (t' := s1.toks) fun b o e => Heap.get?_push_of_some _ e, turn_tuple a _, ⟨_, Heap.get?_push_size _ rfl, rfl, rfl⟩, fun b hb => ?_, q⟩
    have e : b = s1.heap.objs.size := by simpa using hb
    subst e
    exact I1.fpOk (Nat.le_refl _) (I1.hok.fresh (Nat.le_refl _))
/-- one turn of a comprehension for the item d: the target's slots, the test, the element -/
def LcT (K : PySem.W.Frag) (g : TG) (tt : TT) (te : TE) (vs : List Nat) (σ : L2.St) (H : Hp) (d : PyData) (b : Bool) (m : PyData) : Prop :=
  ∀ M x H1, Ext M H H1 → Dp K (hid M H1) x d → ∃ σ2, (∀ k : L2.St → Hp → Prop, k σ2 H1 → g x (wipe σ vs) H1 k) ∧ wipe σ2 vs = wipe σ vs ∧ EvB K tt σ2 (hid M H1) b ∧ (b = true → EvD K te σ2 (hid M H1) m)
/-- the list so far: hidden while it is made -/
def LcI (K : PySem.W.Frag) (M : Addr → Prop) (H1 : Hp) (Dl : Addr) (ms : List PyData) (H' : Hp) : Prop :=
  H1 Dl = none ∧ Ex H1 H' ∧ ∃ acc, H' Dl = some (.lst acc) ∧ DpAll K (hid (fun b => M b ∨ b = Dl) H') acc ms
theorem hid_or {M : Addr → Prop} {p : Addr} (hp : H1 p = none) (e : Ex H1 H') : Ex (hid M H1) (hid (fun b => M b ∨ b = p) H') := fun b o q => by
  by_cases h : M b
  · rw [hid_yes h] at q; cases q
  · rw [hid_no h] at q
    have hb : b ≠ p := ne_of_none q hp
    rw [hid_no (fun z => z.elim h hb)]
    exact e b o q
theorem lci_turn {g : TG} {tt : TT} {te : TE} {vs : List Nat} {Dl : Addr} {d m : PyData} {b : Bool} {ms : List PyData} {x : V} (tk : ∀ b, M b → H1 b ≠ none) (p : LcI K M H1 Dl ms H') (hz : ms.length < 50000)
    (hx : Dp K (hid M H1) x d) (hd : LcT K g tt te vs σ (hid M H1) d b m) :
    g x (wipe σ vs) H' fun σ2 H2 => wipe σ2 vs = wipe σ vs ∧ tt σ2 H2 fun c H3 => if c = true then te σ2 H3 fun y H4 => ∃ acc, H4 Dl = some (.lst acc) ∧ acc.length < sizeLine ∧ LcI K M H1 Dl (if b = true then ms ++ [m] else ms) (upd H4 Dl (.lst (acc ++ [y])))
      else LcI K M H1 Dl (if b = true then ms ++ [m] else ms) H3 := by
  obtain ⟨p1, p2, acc, p3, p4⟩ := p
  have tk' : ∀ c, (M c ∨ c = Dl) → H' c ≠ none := fun c hc z => by
    rcases hc with hc | hc
    · exact tkx tk p2 c hc z
    · rw [hc, p3] at z; cases z
  have x' : Ext (fun c => M c ∨ c = Dl) (hid M H1) H' := ⟨tk', hid_or p1 p2⟩
  obtain ⟨σ2, hg, hw, ht, he⟩ := hd _ x H' x' (x'.lift hx)
  refine hg _ ⟨hw, ht _ H' (.self tk') _ fun H3 e3 => ?_⟩
  cases b with
  | true =>
    show te σ2 H3 _
    refine he rfl _ H3 ((Ext.self tk').step e3) _ fun y H4 e4 ry => ⟨acc, e4 _ _ (e3 _ _ p3), sz_lt (by rw [dpa_len p4]; omega), p1, Ex.mut ((p2.trans e3).trans e4) p1, acc ++ [y], upd_same, ?_⟩
    have eh : hid (fun c => M c ∨ c = Dl) (upd H4 Dl (.lst (acc ++ [y]))) = hid (fun c => M c ∨ c = Dl) H4 := funext fun c => by
      by_cases hc : M c ∨ c = Dl
      · rw [hid_yes hc, hid_yes hc]
      · rw [hid_no hc, hid_no hc, upd_ne (fun z => hc (.inr z))]
    rw [eh]
    exact dpa_append (dpah _ (e3.trans e4) p4) (.cons ry .nil)
  | false =>
    show LcI K M H1 Dl ms H3
    exact ⟨p1, p2.trans e3, acc, e3 _ _ p3, dpah _ e3 p4⟩
theorem Ex.unhid {M : Addr → Prop} {p : Addr} (r : DpAll K (hid (fun b => M b ∨ b = p) H') vs ds) : DpAll K (hid M H') vs ds := Dpax (fun b o q => by
  by_cases h : M b ∨ b = p
  · rw [hid_yes h] at q; cases q
  · rw [hid_no h] at q
    rw [hid_no fun z => h (.inl z)]
    exact q) r
/-- fm: which items are kept, and what is made of them -/
theorem ed_lc {g : TG} {tt : TT} {te tl : TE} {vs : List Nat} {src : PyData} (f : PyData → Bool) (m : PyData → PyData) (h : EvD K tl σ H src) (hsrc : src = .list ds ∨ src = .tuple ds) (hz : ds.length ≤ 40000)
    (ht : ∀ d ∈ ds, LcT K g tt te vs σ H d (f d) (m d)) : EvD K (tLc (iSeq K tl) g tt te vs) σ H (.list ((ds.filter f).map m)) := fun M H0 e Q q =>
  h M H0 e _ fun v H1 e1 r => by
    have xt := e.step e1
    have step : ∀ (i : Nat) (d : PyData), ds[i]? = some d → ((ds.take (i + 1)).filter f).map m = if f d = true then ((ds.take i).filter f).map m ++ [m d] else ((ds.take i).filter f).map m := fun i d hi => by
      have ei : ds.take (i + 1) = ds.take i ++ [d] := by rw [List.take_add_one, hi]; rfl
      rw [ei, List.filter_append, List.map_append]
      by_cases hf : f d = true
      · rw [if_pos hf, List.filter_cons_of_pos hf]; rfl
      · rw [if_neg hf, List.filter_cons_of_neg hf]; simp
    have short : ∀ i, (((ds.take i).filter f).map m).length < 50000 := fun i => by
      rw [List.length_map]
      have h1 := List.length_filter_le f (ds.take i)
      have h2 : (ds.take i).length ≤ ds.length := by rw [List.length_take]; omega
      omega
    have start : ∀ Dl, H1 Dl = none → LcI K M H1 Dl (((ds.take 0).filter f).map m) (upd H1 Dl (.lst [])) := fun Dl hD => ⟨hD, Ex.new hD, [], upd_same, by simp; exact .nil⟩
    have fin : ∀ Dl H', LcI K M H1 Dl (((ds.take ds.length).filter f).map m) H' → Q (.ref Dl) H' := fun Dl H' ⟨p1, p2, acc, p3, p4⟩ => by
      rw [List.take_length] at p4
      refine q _ H' (e1.trans p2) (.lst (sq_of ?_) (Ex.unhid p4))
      rw [hid_no (xt.fresh p1)]
      exact p3
    rcases hsrc with z | z <;> subst z
    · cases r with
      | lst hs ha =>
        refine ⟨_, rfl, .inl ⟨⟨_, hsl hs⟩, fun Dl hD => ?_⟩⟩
        refine lc_list (fun i => LcI K M H1 Dl (((ds.take i).filter f).map m)) (start Dl hD) (fun i H' _ p => ex_l p.2.1 (hsl hs)) (fun i x H' hi p => ?_) (fun H' p => ?_)
        · obtain ⟨d, hd, rd⟩ := dpa_getV ha hi
          have := lci_turn xt.tk p (short i) rd (fun M' x' H2 z r' => ht d (List.mem_of_getElem? hd) M' x' H2 (z.lower xt.ex) r')
          rw [step i d hd]
          exact this
        · rw [dpa_len ha] at p
          exact fin Dl H' p
    · cases r with
      | tup hs ha =>
        refine ⟨_, rfl, .inr ⟨⟨_, hst hs⟩, fun Dl hD => ?_⟩⟩
        refine lc_tup (fun i => LcI K M H1 Dl (((ds.take i).filter f).map m)) (start Dl hD) (fun i H' _ p => ex_t p.2.1 (hst hs)) (fun i x H' hi p => ?_) (fun H' p => ?_)
        · obtain ⟨d, hd, rd⟩ := dpa_getV ha hi
          have := lci_turn xt.tk p (short i) rd (fun M' x' H2 z r' => ht d (List.mem_of_getElem? hd) M' x' H2 (z.lower xt.ex) r')
          rw [step i d hd]
          exact this
        · rw [dpa_len ha] at p
          exact fin Dl H' p
/-- the target a name -/
theorem lct_name {j : Nat} {tt : TT} {te : TE} {vs : List Nat} {d m : PyData} {b : Bool} (hw : ∀ x, wipe ((wipe σ vs).set j (some x)) vs = wipe σ vs)
    (h : ∀ x H1, Ex H H1 → Dp K H1 x d → EvB K tt ((wipe σ vs).set j (some x)) H1 b ∧ (b = true → EvD K te ((wipe σ vs).set j (some x)) H1 m)) : LcT K (gName j) tt te vs σ H d b m := fun M x H1 e r =>
  ⟨_, fun k hk => hk, hw x, (h x _ e.ex r).1, (h x _ e.ex r).2⟩
/-- the target a pair of names -/
theorem lct_pair {i j : Nat} {tt : TT} {te : TE} {vs : List Nat} {d1 d2 m : PyData} {b : Bool} (hw : ∀ x y, wipe (((wipe σ vs).set i (some x)).set j (some y)) vs = wipe σ vs)
    (h : ∀ x y H1, Ex H H1 → Dp K H1 x d1 → Dp K H1 y d2 → EvB K tt (((wipe σ vs).set i (some x)).set j (some y)) H1 b ∧ (b = true → EvD K te (((wipe σ vs).set i (some x)).set j (some y)) H1 m)) :
    LcT K (gTup K 2 (gCons (gName i) (gCons (gName j) gNil))) tt te vs σ H (.tuple [d1, d2]) b m := fun M x H1 e r => by
  cases r with
  | tup hs ha =>
    obtain ⟨u, w, rfl, r1, r2⟩ := dpa2 ha
    exact ⟨_, fun k hk => ⟨_, _, rfl, hst hs, rfl, _, _, rfl, _, _, rfl, rfl, hk⟩, hw u w, (h u w _ e.ex r1 r2).1, (h u w _ e.ex r1 r2).2⟩
end
end DL
end
section
set_option Elab.async false
set_option linter.all false
set_option maxRecDepth 100000
set_option maxHeartbeats 2000000
/-! list(zip(t, u)) of two tuples: the new pairs stay in the list, so the zip's own tuple is held. -/
namespace RZ
open PySem
open PySem.Sem (wp)
section
variable {prog : Program} {w : World} {A : Around} {E : Value → Shared → Prop} {s : Shared}
theorem zipT_item_held {z TI TO T i1 i2 l1 l2 : Addr} {f : Bool} {oT : Obj} {k1 k2 : Nat} {xs ys : Array Value} {x y : Value} {Q : Value → Shared → Prop} (D : ZipApart z TI TO i1 i2 l1 l2)
    (hz : IsZipHeld s.heap z TI TO T f) (hT : s.heap.get? T = some oT) (hTI : IsPair s.heap TI (.ref i1) (.ref i2))
    (h1 : s.heap.IsTupleIter i1 l1 k1) (h2 : s.heap.IsTupleIter i2 l2 k2) (hl1 : s.heap.IsTuple l1 xs) (hl2 : s.heap.IsTuple l2 ys) (hx : xs[k1]? = some x) (hy : ys[k2]? = some y)
    (hQ : ∀ h', IsZipHeld h' z TI TO T true → h'.IsTupleIter i1 l1 (k1 + 1) → h'.IsTupleIter i2 l2 (k2 + 1) → IsPair h' s.heap.objs.size x y → h'.objs.size = s.heap.objs.size + 1 →
      (∀ c o, c ≠ z → c ≠ i1 → c ≠ i2 → s.heap.get? c = some o → h'.get? c = some o) → Q (.ref s.heap.objs.size) { s with heap := h' }) :
    wpAny (model prog w) A (Builtin.«zip.__next__» ⟨[.ref z], []⟩) (fun fin s' => ∃ v, fin = .done (.ret v) ∧ Q v s') E s := by
  show wpAny _ _ (field (.ref z) 2 >>= _) _ _ _
  refine wpAny_bind (wpAny_field hz rfl (x := .bool false) rfl ?_)
  show wpAny _ _ (field (.ref z) 3 >>= _) _ _ _
  refine wpAny_bind (wpAny_field hz rfl (x := .ref TI) rfl ?_)
  refine wpAny_bind (wpAny_seqItems hTI rfl ?_)
  show wpAny _ _ (Builtin.SmallTypes.ownedTupleIsFree (.ref z) >>= _) _ _ _
  refine wpAny_bind (wpAny_tupleHeld_zip hz hT fun h₁ hz₁ hs₁ => ?_)
  simp only [Bool.false_eq_true, if_false]
  refine wpAny_bind ?_
  rw [← Array.forIn_toList]
  simp only [List.forIn_cons, List.forIn_nil]
  refine wpAny_bind (wpAny_bind (wpAny_holding ?_))
  show wpAny _ _ (Builtin.SmallTypes.nextOf (.ref i1) >>= _) _ _ _
  refine wpAny_bind (nextOf_tuple_item (s := { s with heap := h₁ }) (h1.extBut hs₁.extBut D.i1z) (hl1.extBut hs₁.extBut D.l1z) hx fun h₂ h1₂ hs₂ => wpAny_pure ?_)
  refine wpAny_pure ?_
  refine wpAny_bind (wpAny_bind (wpAny_holding ?_))
  show wpAny _ _ (Builtin.SmallTypes.nextOf (.ref i2) >>= _) _ _ _
  refine wpAny_bind (nextOf_tuple_item (s := { s with heap := h₂ }) ((h2.extBut hs₁.extBut D.i2z).extBut hs₂.extBut D.i12.symm) ((hl2.extBut hs₁.extBut D.l2z).extBut hs₂.extBut D.l2i1) hy fun h₃ h2₃ hs₃ => wpAny_pure ?_)
  refine wpAny_pure (wpAny_pure ?_)
  show wpAny _ _ (newTuple [x, y] >>= _) _ _ _
  refine wpAny_bind (wpAny_newTuple ?_)
  have hsz : h₃.objs.size = s.heap.objs.size := by rw [hs₃.1, hs₂.1, hs₁.1]
  have hz₃ : IsZipHeld h₃ z TI TO T true := hs₃.extBut _ _ D.i2z.symm (hs₂.extBut _ _ D.i1z.symm hz₁)
  have hk : ∀ c o, c ≠ z → c ≠ i1 → c ≠ i2 → s.heap.get? c = some o → h₃.get? c = some o := fun c o c1 c2 c3 e => hs₃.extBut _ _ c3 (hs₂.extBut _ _ c2 (hs₁.extBut _ _ c1 e))
  have h1₃ : h₃.IsTupleIter i1 l1 (k1 + 1) := h1₂.extBut hs₃.extBut D.i12
  refine wpAny_pure ⟨_, rfl, ?_⟩
  show Q (.ref h₃.objs.size) _
  have hp : IsPair (h₃.push { cls := .type "tuple", data := .seq #[x, y] }) h₃.objs.size x y := Heap.get?_push_size _ rfl
  have hz4 : (h₃.push { cls := .type "tuple", data := .seq #[x, y] }).objs.size = h₃.objs.size + 1 := Heap.size_push ..
  rw [hsz] at hp hz4 ⊢
  exact hQ _ (Heap.get?_push_of_some _ hz₃) (h1₃.at fun o e => Heap.get?_push_of_some _ e) (h2₃.at fun o e => Heap.get?_push_of_some _ e) hp hz4 fun c o c1 c2 c3 e => Heap.get?_push_of_some _ (hk c o c1 c2 c3 e)

theorem zipT_end_held {z TI TO T i1 i2 l1 l2 : Addr} {f : Bool} {oT : Obj} {k1 k2 : Nat} {xs ys : Array Value} {Q : Fin → Shared → Prop} (hh : A.handled = none) (D : ZipApart z TI TO i1 i2 l1 l2)
    (hz : IsZipHeld s.heap z TI TO T f) (hT : s.heap.get? T = some oT) (hTI : IsPair s.heap TI (.ref i1) (.ref i2))
    (h1 : s.heap.IsTupleIter i1 l1 k1) (h2 : s.heap.IsTupleIter i2 l2 k2) (hl1 : s.heap.IsTuple l1 xs) (hl2 : s.heap.IsTuple l2 ys) (hend : xs[k1]? = none ∨ ys[k2]? = none)
    (hE : ∀ h' e, (∀ c o, c ≠ z → c ≠ i1 → c ≠ i2 → s.heap.get? c = some o → h'.get? c = some o) → (∃ o, h'.get? e = some o ∧ o.cls = .type "StopIteration") → E (.ref e) { s with heap := h' }) :
    wpAny (model prog w) A (Builtin.«zip.__next__» ⟨[.ref z], []⟩) Q E s := by
  show wpAny _ _ (field (.ref z) 2 >>= _) _ _ _
  refine wpAny_bind (wpAny_field hz rfl (x := .bool false) rfl ?_)
  show wpAny _ _ (field (.ref z) 3 >>= _) _ _ _
  refine wpAny_bind (wpAny_field hz rfl (x := .ref TI) rfl ?_)
  refine wpAny_bind (wpAny_seqItems hTI rfl ?_)
  show wpAny _ _ (Builtin.SmallTypes.ownedTupleIsFree (.ref z) >>= _) _ _ _
  refine wpAny_bind (wpAny_tupleHeld_zip hz hT fun h₁ hz₁ hs₁ => ?_)
  simp only [Bool.false_eq_true, if_false]
  refine wpAny_bind ?_
  rw [← Array.forIn_toList]
  simp only [List.forIn_cons, List.forIn_nil]
  refine wpAny_bind (wpAny_bind (wpAny_holding ?_))
  show wpAny _ _ (Builtin.SmallTypes.nextOf (.ref i1) >>= _) _ _ _
  cases hx : xs[k1]? with
  | none =>
    refine wpAny_bind (nextOf_tuple_end (s := { s with heap := h₁ }) hh (h1.extBut hs₁.extBut D.i1z) (hl1.extBut hs₁.extBut D.l1z) hx fun h₂ e hs₂ he => ?_)
    exact hE h₂ e (fun c o c1 c2 _ x => hs₂ _ _ c2 (hs₁.extBut _ _ c1 x)) he
  | some x =>
    have hy : ys[k2]? = none := by rcases hend with h | h; rw [hx] at h; cases h; exact h
    refine wpAny_bind (nextOf_tuple_item (s := { s with heap := h₁ }) (h1.extBut hs₁.extBut D.i1z) (hl1.extBut hs₁.extBut D.l1z) hx fun h₂ h1₂ hs₂ => wpAny_pure ?_)
    refine wpAny_pure ?_
    refine wpAny_bind (wpAny_bind (wpAny_holding ?_))
    show wpAny _ _ (Builtin.SmallTypes.nextOf (.ref i2) >>= _) _ _ _
    refine wpAny_bind (nextOf_tuple_end (s := { s with heap := h₂ }) hh ((h2.extBut hs₁.extBut D.i2z).extBut hs₂.extBut D.i12.symm) ((hl2.extBut hs₁.extBut D.l2z).extBut hs₂.extBut D.l2i1) hy fun h₃ e hs₃ he => ?_)
    exact hE h₃ e (fun c o c1 c2 c3 x => hs₃ _ _ c3 (hs₂.extBut _ _ c2 (hs₁.extBut _ _ c1 x))) he

theorem pyNext_zipT_item_held {z TI TO T i1 i2 l1 l2 : Addr} {f : Bool} {oT : Obj} {k1 k2 : Nat} {xs ys : Array Value} {x y : Value} {Q : Option Value → Shared → Prop} (D : ZipApart z TI TO i1 i2 l1 l2)
    (hz : IsZipHeld s.heap z TI TO T f) (hT : s.heap.get? T = some oT) (hTI : IsPair s.heap TI (.ref i1) (.ref i2))
    (h1 : s.heap.IsTupleIter i1 l1 k1) (h2 : s.heap.IsTupleIter i2 l2 k2) (hl1 : s.heap.IsTuple l1 xs) (hl2 : s.heap.IsTuple l2 ys) (hx : xs[k1]? = some x) (hy : ys[k2]? = some y)
    (hQ : ∀ h', IsZipHeld h' z TI TO T true → h'.IsTupleIter i1 l1 (k1 + 1) → h'.IsTupleIter i2 l2 (k2 + 1) → IsPair h' s.heap.objs.size x y → h'.objs.size = s.heap.objs.size + 1 →
      (∀ c o, c ≠ z → c ≠ i1 → c ≠ i2 → s.heap.get? c = some o → h'.get? c = some o) → Q (some (.ref s.heap.objs.size)) { s with heap := h' }) :
    wpAny (model prog w) A (pyNext (.ref z)) Q E s := by
  have hTy : s.TypeIs (.ref z) "zip" := ⟨_, hz, rfl⟩
  unfold pyNext
  exact wpAny_bind (wpAny_attempt (wpAny_callSpecial?_slot (name := Str.ofString "__next__") hTy F.slot_zip_next
    (wpAny_call_entry F.slot_zip_next hTy F.entry_zip_next
      (zipT_item_held D hz hT hTI h1 h2 hl1 hl2 hx hy fun h' a1 a3 a4 a5 a6 a7 => wpAny_pure (hQ h' a1 a3 a4 a5 a6 a7)) (F.args_zip_next_1 _))))
theorem pyNext_zipT_end_held {z TI TO T i1 i2 l1 l2 : Addr} {f : Bool} {oT : Obj} {k1 k2 : Nat} {xs ys : Array Value} {Q : Option Value → Shared → Prop} (hh : A.handled = none) (D : ZipApart z TI TO i1 i2 l1 l2)
    (hz : IsZipHeld s.heap z TI TO T f) (hT : s.heap.get? T = some oT) (hTI : IsPair s.heap TI (.ref i1) (.ref i2))
    (h1 : s.heap.IsTupleIter i1 l1 k1) (h2 : s.heap.IsTupleIter i2 l2 k2) (hl1 : s.heap.IsTuple l1 xs) (hl2 : s.heap.IsTuple l2 ys) (hend : xs[k1]? = none ∨ ys[k2]? = none)
    (hQ : ∀ h', (∀ c o, c ≠ z → c ≠ i1 → c ≠ i2 → s.heap.get? c = some o → h'.get? c = some o) → Q none { s with heap := h' }) : wpAny (model prog w) A (pyNext (.ref z)) Q E s := by
  have hTy : s.TypeIs (.ref z) "zip" := ⟨_, hz, rfl⟩
  unfold pyNext
  refine wpAny_bind (wpAny_attempt (wpAny_callSpecial?_slot (name := Str.ofString "__next__") hTy F.slot_zip_next
    (wpAny_call_entry F.slot_zip_next hTy F.entry_zip_next (zipT_end_held hh D hz hT hTI h1 h2 hl1 hl2 hend fun h' e hk he => ?_) (F.args_zip_next_1 _))))
  obtain ⟨o, ho, hc⟩ := he
  refine wpAny_bind (wpAny_isInstance (T := "StopIteration") (b := true) ⟨o, ho, hc⟩ isSubtype_stop ?_)
  exact wpAny_pure (hQ _ hk)

/-- behind k turns: B the address of the first pair; the pairs stand one behind another -/
structure ZSt (z TI TO i1 i2 l1 l2 B : Addr) (xs ys : Array Value) (k : Nat) (h : Heap) : Prop where
  zip : (k = 0 ∧ IsZip h z TI TO .none ∧ IsPair h TO .none .none) ∨ (0 < k ∧ ∃ f, IsZipHeld h z TI TO B f)
  ti : IsPair h TI (.ref i1) (.ref i2)
  it1 : h.IsTupleIter i1 l1 k
  it2 : h.IsTupleIter i2 l2 k
  t1 : h.IsTuple l1 xs
  t2 : h.IsTuple l2 ys
  pairs : ∀ j, j < k → ∃ x y, xs[j]? = some x ∧ ys[j]? = some y ∧ IsPair h (B + j) x y
  size : h.objs.size = B + k
theorem ZSt.other {z TI TO i1 i2 l1 l2 B S : Addr} {xs ys : Array Value} {k : Nat} {h h' : Heap} (Z : ZSt z TI TO i1 i2 l1 l2 B xs ys k h) (hs : ∀ b o, b ≠ S → h.get? b = some o → h'.get? b = some o) (hz : h'.objs.size = h.objs.size)
    (n1 : S ≠ z) (n2 : S ≠ TI) (n3 : S ≠ TO) (n4 : S ≠ i1) (n5 : S ≠ i2) (n6 : S ≠ l1) (n7 : S ≠ l2) (n8 : S < B) : ZSt z TI TO i1 i2 l1 l2 B xs ys k h' := by
  have ex : Heap.ExtBut S h h' := fun b o hb e => hs b o hb e
  refine ⟨?_, hs _ _ n2.symm Z.ti, Z.it1.extBut ex n4.symm, Z.it2.extBut ex n5.symm, Z.t1.extBut ex n6.symm, Z.t2.extBut ex n7.symm, fun j hj => ?_, hz.trans Z.size⟩
  · rcases Z.zip with ⟨e, a, b⟩ | ⟨e, f, a⟩
    · exact .inl ⟨e, hs _ _ n1.symm a, hs _ _ n3.symm b⟩
    · exact .inr ⟨e, f, hs _ _ n1.symm a⟩
  · obtain ⟨x, y, e1, e2, e3⟩ := Z.pairs j hj
    exact ⟨x, y, e1, e2, hs _ _ (Nat.ne_of_gt (Nat.lt_of_lt_of_le n8 (Nat.le_add_right B j))) e3⟩
theorem ZSt.step {z TI TO i1 i2 l1 l2 B : Addr} {xs ys : Array Value} {k : Nat} {x y : Value} {Q : Option Value → Shared → Prop} (D : ZipApart z TI TO i1 i2 l1 l2) (Z : ZSt z TI TO i1 i2 l1 l2 B xs ys k s.heap)
    (hB : z < B ∧ TI < B ∧ TO < B ∧ i1 < B ∧ i2 < B ∧ l1 < B ∧ l2 < B) (nTO : TI ≠ TO ∧ TO ≠ l1 ∧ TO ≠ l2 ∧ TI ≠ z ∧ TI ≠ i1 ∧ TI ≠ i2 ∧ TO ≠ z ∧ TO ≠ i1 ∧ TO ≠ i2) (hx : xs[k]? = some x) (hy : ys[k]? = some y)
    (hQ : ∀ h', ZSt z TI TO i1 i2 l1 l2 B xs ys (k + 1) h' → (∀ c o, c ≠ z → c ≠ TO → c ≠ i1 → c ≠ i2 → s.heap.get? c = some o → h'.get? c = some o) → Q (some (.ref (B + k))) { s with heap := h' }) :
    wpAny (model prog w) A (pyNext (.ref z)) Q E s := by
  obtain ⟨b1, b2, b3, b4, b5, b6, b7⟩ := hB
  obtain ⟨n1, n2, n3, n4, n5, n6, n7, n8, n9⟩ := nTO
  have key : ∀ h', (∀ c o, c ≠ z → c ≠ TO → c ≠ i1 → c ≠ i2 → s.heap.get? c = some o → h'.get? c = some o) → (∃ f, IsZipHeld h' z TI TO B f) → h'.IsTupleIter i1 l1 (k + 1) → h'.IsTupleIter i2 l2 (k + 1) → IsPair h' s.heap.objs.size x y → h'.objs.size = s.heap.objs.size + 1 →
      ZSt z TI TO i1 i2 l1 l2 B xs ys (k + 1) h' := fun h' kp hz h1 h2 hp hs => by
    have tk : ∀ {l : Addr} {zs : Array Value}, s.heap.IsTuple l zs → l ≠ z → l ≠ TO → l ≠ i1 → l ≠ i2 → h'.IsTuple l zs := fun {l zs} ⟨o, ho, r⟩ a b c d => ⟨o, kp _ _ a b c d ho, r⟩
    refine ⟨.inr ⟨Nat.succ_pos _, hz⟩, kp _ _ n4 n1 n5 n6 Z.ti, h1, h2, tk Z.t1 D.l1z n2.symm D.l1i1 D.l1i2, tk Z.t2 D.l2z n3.symm D.l2i1 D.l2i2, fun j hj => ?_, by rw [hs, Z.size]; rfl⟩
    by_cases e : j = k
    · subst e
      exact ⟨x, y, hx, hy, by rw [← Z.size]; exact hp⟩
    · obtain ⟨x', y', e1, e2, e3⟩ := Z.pairs j (by omega)
      have bj : B ≤ B + j := Nat.le_add_right B j
      exact ⟨x', y', e1, e2, kp _ _ (Nat.ne_of_gt (Nat.lt_of_lt_of_le b1 bj)) (Nat.ne_of_gt (Nat.lt_of_lt_of_le b3 bj)) (Nat.ne_of_gt (Nat.lt_of_lt_of_le b4 bj)) (Nat.ne_of_gt (Nat.lt_of_lt_of_le b5 bj)) e3⟩
  rcases Z.zip with ⟨e, a, b⟩ | ⟨e, f, a⟩
  · subst e
    refine pyNext_zipT_item D a Z.ti b Z.it1 Z.it2 Z.t1 Z.t2 hx hy fun h' a1 a2 a3 a4 a5 a6 a7 => ?_
    have hs0 : s.heap.objs.size = B := Z.size
    have := hQ h' (key h' a7 ⟨false, by rw [hs0] at a1; exact a1⟩ a3 a4 a5 a6) a7
    rw [hs0]
    exact this
  · obtain ⟨x0, y0, _, _, e0⟩ := Z.pairs 0 e
    refine pyNext_zipT_item_held D a e0 Z.ti Z.it1 Z.it2 Z.t1 Z.t2 hx hy fun h' a1 a3 a4 a5 a6 a7 => ?_
    have kp : ∀ c o, c ≠ z → c ≠ TO → c ≠ i1 → c ≠ i2 → s.heap.get? c = some o → h'.get? c = some o := fun c o c1 _ c3 c4 q => a7 c o c1 c3 c4 q
    have := hQ h' (key h' kp ⟨true, a1⟩ a3 a4 a5 a6) kp
    rw [Z.size]
    exact this
theorem ZSt.fin {z TI TO i1 i2 l1 l2 B : Addr} {xs ys : Array Value} {k : Nat} {Q : Option Value → Shared → Prop} (hh : A.handled = none) (D : ZipApart z TI TO i1 i2 l1 l2) (Z : ZSt z TI TO i1 i2 l1 l2 B xs ys k s.heap)
    (hend : xs[k]? = none ∨ ys[k]? = none) (hQ : ∀ h', (∀ c o, c ≠ z → c ≠ TO → c ≠ i1 → c ≠ i2 → s.heap.get? c = some o → h'.get? c = some o) → Q none { s with heap := h' }) :
    wpAny (model prog w) A (pyNext (.ref z)) Q E s := by
  rcases Z.zip with ⟨e, a, b⟩ | ⟨e, f, a⟩
  · subst e
    exact pyNext_zipT_end hh D a Z.ti b Z.it1 Z.it2 Z.t1 Z.t2 hend hQ
  · obtain ⟨x0, y0, _, _, e0⟩ := Z.pairs 0 e
    exact pyNext_zipT_end_held hh D a e0 Z.ti Z.it1 Z.it2 Z.t1 Z.t2 hend fun h' kp => hQ h' fun c o c1 _ c3 c4 q => kp c o c1 c3 c4 q

theorem no_len_zip : typeLookup (.type "zip") "__len__" = pure none := by rw [typeLookup_type, builtinLookup_eq_fast]; kernel_rfl
theorem no_hint_zip : typeLookup (.type "zip") "__length_hint__" = pure none := by rw [typeLookup_type, builtinLookup_eq_fast]; kernel_rfl
/-- the pairs' values -/
def refsFrom (B k : Nat) : List Value := (List.range k).map fun j => Value.ref (B + j)
theorem refsFrom_succ (B k : Nat) : refsFrom B (k + 1) = refsFrom B k ++ [.ref (B + k)] := by
  unfold refsFrom
  rw [List.range_succ, List.map_append]; rfl
theorem refsFrom_len (B k : Nat) : (refsFrom B k).length = k := by unfold refsFrom; rw [List.length_map, List.length_range]
/-- S the list that is filled, ahead of all of it; n the turns -/
theorem zip_loop {R : Result → Shared → Prop} {z TI TO i1 i2 l1 l2 B S : Addr} {xs ys : Array Value} {n : Nat} (hh : A.handled = none) (D : ZipApart z TI TO i1 i2 l1 l2)
    (hB : z < B ∧ TI < B ∧ TO < B ∧ i1 < B ∧ i2 < B ∧ l1 < B ∧ l2 < B) (nTO : TI ≠ TO ∧ TO ≠ l1 ∧ TO ≠ l2 ∧ TI ≠ z ∧ TI ≠ i1 ∧ TI ≠ i2 ∧ TO ≠ z ∧ TO ≠ i1 ∧ TO ≠ i2)
    (nS : S ≠ z ∧ S ≠ TI ∧ S ≠ TO ∧ S ≠ i1 ∧ S ≠ i2 ∧ S ≠ l1 ∧ S ≠ l2 ∧ S < B) (hn : n ≤ sizeLine) (hx : ∀ k, k < n → ∃ x y, xs[k]? = some x ∧ ys[k]? = some y) (hend : xs[n]? = none ∨ ys[n]? = none) (res : Value) :
    ∀ (m k : Nat) (s : Shared) (c : Nat), n - k = m → k ≤ n → ZSt z TI TO i1 i2 l1 l2 B xs ys k s.heap → s.heap.get? S = some { cls := .type "list", dict := none, data := .seq (refsFrom B k).toArray c, slots := #[] } →
    (∀ h' c', (∀ b o, b ≠ S → b ≠ z → b ≠ TO → b ≠ i1 → b ≠ i2 → s.heap.get? b = some o → h'.get? b = some o) → h'.get? S = some { cls := .type "list", dict := none, data := .seq (refsFrom B n).toArray c', slots := #[] } →
      (∀ j, j < n → ∃ x y, xs[j]? = some x ∧ ys[j]? = some y ∧ IsPair h' (B + j) x y) → R (.ok (.ret res)) { s with heap := h' }) →
    codeAny (model prog w) A (.builtin "list.extend.loop" ⟨[.ref S, .ref z, res], []⟩) R s := by
  obtain ⟨m1, m2, m3, m4, m5, m6, m7, m8⟩ := nS
  intro m
  induction m with
  | zero =>
    intro k s c hk hi Z hS hR
    have hin : k = n := by omega
    subst hin
    refine codeAny_builtin F.entry_extend_loop ?_
    rw [Around.under_plainId F.plain_extend_loop _]
    show wpAny _ A.in1 (pyNext (.ref z) >>= _) _ _ s
    refine wpAny_bind (Z.fin (A := A.in1) hh D hend fun h' kp => ?_)
    refine wpAny_pure (hR h' c (fun b o hb c1 c2 c3 c4 e => kp b o c1 c2 c3 c4 e) (kp _ _ m1 m3 m4 m5 hS) fun j hj => ?_)
    obtain ⟨x, y, e1, e2, e3⟩ := Z.pairs j hj
    obtain ⟨b1, b2, b3, b4, b5, b6, b7⟩ := hB
    have bj : B ≤ B + j := Nat.le_add_right B j
    exact ⟨x, y, e1, e2, kp _ _ (Nat.ne_of_gt (Nat.lt_of_lt_of_le b1 bj)) (Nat.ne_of_gt (Nat.lt_of_lt_of_le b3 bj)) (Nat.ne_of_gt (Nat.lt_of_lt_of_le b4 bj)) (Nat.ne_of_gt (Nat.lt_of_lt_of_le b5 bj)) e3⟩
  | succ m ih =>
    intro k s c hk hi Z hS hR
    have hlt : k < n := by omega
    obtain ⟨x, y, ex, ey⟩ := hx k hlt
    refine codeAny_builtin F.entry_extend_loop ?_
    rw [Around.under_plainId F.plain_extend_loop _]
    show wpAny _ A.in1 (pyNext (.ref z) >>= _) _ _ s
    refine wpAny_bind (Z.step (A := A.in1) D hB nTO ex ey fun h' Z' kp => ?_)
    have hS' : h'.get? S = some { cls := .type "list", dict := none, data := .seq (refsFrom B k).toArray c, slots := #[] } := kp _ _ m1 m3 m4 m5 hS
    show wpAny _ A.in1 (updateSeq S (·.push (.ref (B + k))) >>= _) _ _ _
    refine wpAny_bind ?_
    have sz : (refsFrom B k).toArray.size = k := by rw [List.size_toArray, refsFrom_len]
    have e1 : (refsFrom B (k + 1)).toArray = (refsFrom B k).toArray.push (.ref (B + k)) := by rw [refsFrom_succ]; simp
    have hS2 := Heap.get?_update_self (Obj.mapSeq (·.push (.ref (B + k)))) hS' rfl
    rw [PyProof.Rows.mapSeq_push, ← e1] at hS2
    refine wpAny_updateSeq (s := { s with heap := h' }) hS' rfl (wpAny_pure ⟨plainId_quiet F.plain_extend_loop _, ih (k + 1) _ _ (by omega) hlt (Z'.other (S := S) (fun b o hb e => (Heap.get?_update_other _ _ (Ne.symm hb)).trans e) (Heap.SameBut.update ..).1 m1 m2 m3 m4 m5 m6 m7 m8) hS2 fun h'' c' kp'' hS'' hp => ?_⟩)
      (by rw [sz]; omega) (by show ((refsFrom B k).toArray.push _).size ≤ sizeLine + 1; rw [Array.size_push, sz]; omega)
    · refine hR h'' c' (fun b o hb c1 c2 c3 c4 e => kp'' b o hb c1 c2 c3 c4 ((Heap.get?_update_other _ _ (Ne.symm hb)).trans (kp b o c1 c2 c3 c4 e))) hS'' hp

theorem zip_extend {R : Result → Shared → Prop} {z TI TO i1 i2 l1 l2 B S : Addr} {xs ys : Array Value} {n c₀ : Nat} (hh : A.handled = none) (D : ZipApart z TI TO i1 i2 l1 l2)
    (hB : z < B ∧ TI < B ∧ TO < B ∧ i1 < B ∧ i2 < B ∧ l1 < B ∧ l2 < B) (nTO : TI ≠ TO ∧ TO ≠ l1 ∧ TO ≠ l2 ∧ TI ≠ z ∧ TI ≠ i1 ∧ TI ≠ i2 ∧ TO ≠ z ∧ TO ≠ i1 ∧ TO ≠ i2)
    (nS : S ≠ z ∧ S ≠ TI ∧ S ≠ TO ∧ S ≠ i1 ∧ S ≠ i2 ∧ S ≠ l1 ∧ S ≠ l2 ∧ S < B) (hn : n ≤ sizeLine) (hx : ∀ k, k < n → ∃ x y, xs[k]? = some x ∧ ys[k]? = some y) (hend : xs[n]? = none ∨ ys[n]? = none) (res : Value)
    (Z : ZSt z TI TO i1 i2 l1 l2 B xs ys 0 s.heap) (hS : s.heap.get? S = some { cls := .type "list", data := .seq #[] c₀ })
    (hR : ∀ h' c', (∀ b o, b ≠ S → b ≠ z → b ≠ TO → b ≠ i1 → b ≠ i2 → s.heap.get? b = some o → h'.get? b = some o) → h'.get? S = some { cls := .type "list", dict := none, data := .seq (refsFrom B n).toArray c', slots := #[] } →
      (∀ j, j < n → ∃ x y, xs[j]? = some x ∧ ys[j]? = some y ∧ IsPair h' (B + j) x y) → R (.ok (.ret res)) { s with heap := h' }) :
    wpAny (model prog w) A.in1 (Builtin.List.listExtendWith (.ref S) (.ref z) res)
      (fun fin s' => match fin with | .done f => R (.ok f) s' | .again c' => c'.quiet = true ∧ codeAny (model prog w) A c' R s') (fun e s' => R (.error e) s') s := by
  have hSI : S ≠ z := nS.1
  have hT : s.TypeIs (.ref z) "zip" := by
    rcases Z.zip with ⟨_, a, _⟩ | ⟨_, f, a⟩
    · exact ⟨_, a, rfl⟩
    · exact ⟨_, a, rfl⟩
  have hz : IsZip s.heap z TI TO .none := by
    rcases Z.zip with ⟨_, a, _⟩ | ⟨e, f, a⟩
    · exact a
    · exact absurd e (Nat.lt_irrefl 0)
  unfold Builtin.List.listExtendWith
  refine wpAny_bind (wpAny_typeOf hT ?_)
  have h1 : Builtin.List.listSameRef (.ref S) (.ref z) = false := by simp [Builtin.List.listSameRef, hSI]
  have h2 : (Value.type "zip" == Value.type "list") = false := by decide
  have h3 : (Value.type "zip" == Value.type "tuple") = false := by decide
  simp only [h1, h2, h3, Bool.or_false, Bool.false_eq_true, if_false]
  refine wpAny_bind (wpAny_pyIter_zip hz ?_)
  refine wpAny_bind (wpAny_holding ?_)
  unfold Builtin.List.listLengthHint
  refine wpAny_bind (wpAny_specialOf hT no_len_zip ?_)
  show wpAny _ A.in1 (specialOf (Value.ref z) (Str.ofString "__length_hint__") >>= _) _ _ _
  refine wpAny_bind (wpAny_specialOf hT no_hint_zip ?_)
  refine wpAny_pure ?_
  show wpAny _ A.in1 (rule "list.extend.makes-room" >>= fun _ => Builtin.List.listTouch (.ref S) >>= fun _ =>
    again (.builtin "list.extend.loop" ⟨[.ref S, .ref z, res], []⟩)) _ _ _
  refine wpAny_bind (wpAny_rule ?_)
  refine wpAny_bind ?_
  show wpAny _ A.in1 (updateSeq S (·.push .none) >>= fun _ => updateSeq S (·.pop)) _ _ _
  refine wpAny_bind (wpAny_updateSeq hS rfl ?_)
  have hS₂ := Heap.get?_update_self (Obj.mapSeq (·.push Value.none)) hS rfl
  refine wpAny_updateSeq (hz := by seq_fits) hS₂ rfl ?_
  have hS₃ := Heap.get?_update_self (Obj.mapSeq (·.pop)) hS₂ rfl
  have oth : ∀ b o, b ≠ S → s.heap.get? b = some o → ((s.heap.update S (Obj.mapSeq (·.push Value.none))).update S (Obj.mapSeq (·.pop))).get? b = some o :=
    fun b o hb e => (Heap.get?_update_other _ _ (Ne.symm hb)).trans ((Heap.get?_update_other _ _ (Ne.symm hb)).trans e)
  have hsz : ((s.heap.update S (Obj.mapSeq (·.push Value.none))).update S (Obj.mapSeq (·.pop))).objs.size = s.heap.objs.size := (Heap.SameBut.update ..).1.trans (Heap.SameBut.update ..).1
  refine wpAny_pure ⟨plainId_quiet F.plain_extend_loop _, zip_loop hh D hB nTO nS hn hx hend res n 0 _ _ rfl (Nat.zero_le _) (Z.other (S := S) oth hsz nS.1 nS.2.1 nS.2.2.1 nS.2.2.2.1 nS.2.2.2.2.1 nS.2.2.2.2.2.1 nS.2.2.2.2.2.2.1 nS.2.2.2.2.2.2.2) hS₃ fun h' c' kp hS' hp => ?_⟩
  exact hR h' c' (fun b o hb c1 c2 c3 c4 e => kp b o hb c1 c2 c3 c4 (oth b o hb e)) hS' hp
theorem call_list_zip {Q : Value → Shared → Prop} {z TI TO i1 i2 l1 l2 : Addr} {xs ys : Array Value} {n : Nat} (hh : A.handled = none) (D : ZipApart z TI TO i1 i2 l1 l2) (nTO : TI ≠ TO ∧ TO ≠ l1 ∧ TO ≠ l2 ∧ TI ≠ z ∧ TI ≠ i1 ∧ TI ≠ i2 ∧ TO ≠ z ∧ TO ≠ i1 ∧ TO ≠ i2)
    (hz : IsZip s.heap z TI TO .none) (hTI : IsPair s.heap TI (.ref i1) (.ref i2)) (hTO : IsPair s.heap TO .none .none) (h1 : s.heap.IsTupleIter i1 l1 0) (h2 : s.heap.IsTupleIter i2 l2 0) (hl1 : s.heap.IsTuple l1 xs) (hl2 : s.heap.IsTuple l2 ys)
    (hn : n ≤ sizeLine) (hx : ∀ k, k < n → ∃ x y, xs[k]? = some x ∧ ys[k]? = some y) (hend : xs[n]? = none ∨ ys[n]? = none)
    (hQ : ∀ h' c', (∀ b o, b ≠ z → b ≠ TO → b ≠ i1 → b ≠ i2 → s.heap.get? b = some o → h'.get? b = some o) → h'.get? s.heap.objs.size = some { cls := .type "list", dict := none, data := .seq (refsFrom (s.heap.objs.size + 1) n).toArray c', slots := #[] } →
      (∀ j, j < n → ∃ x y, xs[j]? = some x ∧ ys[j]? = some y ∧ IsPair h' (s.heap.objs.size + 1 + j) x y) → Q (.ref s.heap.objs.size) { s with heap := h' }) :
    wpAny (model prog w) A (call (.type "list") [.ref z]) Q E s := by
  have lt : ∀ {a : Addr} {o : Obj}, s.heap.get? a = some o → a < s.heap.objs.size := fun e => Heap.lt_size e
  obtain ⟨o1, ho1, _⟩ := id h1
  obtain ⟨o2, ho2, _⟩ := id h2
  obtain ⟨o3, ho3, _⟩ := id hl1
  obtain ⟨o4, ho4, _⟩ := id hl2
  have b1 := lt hz
  have b2 := lt hTI
  have b3 := lt hTO
  have b4 := lt ho1
  have b5 := lt ho2
  have b6 := lt ho3
  have b7 := lt ho4
  refine callType_codes (Q₁ := fun obj s₁ => obj = .ref s.heap.objs.size ∧ s₁ = { s with heap := s.heap.push { cls := .type "list", data := .seq #[] } }) F.called_list (F.typeCall_list_1 _) F.entry_list_init
    (code_list_new _ ⟨rfl, rfl⟩) fun obj s₁ h₁ => ?_
  obtain ⟨rfl, rfl⟩ := h₁
  have hS : (s.heap.push { cls := .type "list", data := .seq #[] }).get? s.heap.objs.size = some { cls := .type "list", data := .seq #[] } := Heap.get?_push_size _ rfl
  refine ⟨⟨_, hS, rfl⟩, F.args_list_init_2 _ _, ?_⟩
  show wpAny _ A.in1.in1 (do let old ← Builtin.List.listItems (.ref s.heap.objs.size); Builtin.List.listUpdate (.ref s.heap.objs.size) (fun _ => #[]); letGo old.toList.reverse; Builtin.List.listExtendWith (.ref s.heap.objs.size) (.ref z) .none) _ _ _
  refine wpAny_bind ?_
  unfold Builtin.List.listItems
  refine wpAny_bind (wpAny_seqItems hS rfl (wpAny_pure ?_))
  show wpAny _ A.in1.in1 (updateSeq s.heap.objs.size (fun _ => #[]) >>= fun _ => letGo (#[] : Array Value).toList.reverse >>= fun _ => Builtin.List.listExtendWith (.ref s.heap.objs.size) (.ref z) .none) _ _ _
  refine wpAny_bind (wpAny_updateSeq hS rfl ?_)
  have hS₂ := Heap.get?_update_self (Obj.mapSeq (fun _ => (#[] : Array Value))) hS rfl
  have hpu : ∀ b o, s.heap.get? b = some o → (s.heap.push { cls := .type "list", data := .seq #[] }).get? b = some o := fun b o e => Heap.get?_push_of_some _ e
  have oth : ∀ b o, s.heap.get? b = some o → ((s.heap.push { cls := .type "list", data := .seq #[] }).update s.heap.objs.size (Obj.mapSeq (fun _ => (#[] : Array Value)))).get? b = some o :=
    fun b o e => (Heap.get?_update_other _ _ (Nat.ne_of_gt (lt e))).trans (hpu b o e)
  have hsz : ((s.heap.push { cls := .type "list", data := .seq #[] }).update s.heap.objs.size (Obj.mapSeq (fun _ => (#[] : Array Value)))).objs.size = s.heap.objs.size + 1 := (Heap.SameBut.update ..).1.trans (Heap.size_push ..)
  refine wpAny_bind (wpAny_letGo ?_)
  refine zip_extend (A := A.in1) (B := s.heap.objs.size + 1) (n := n) (xs := xs) (ys := ys) hh D ⟨Nat.lt_succ_of_lt b1, Nat.lt_succ_of_lt b2, Nat.lt_succ_of_lt b3, Nat.lt_succ_of_lt b4, Nat.lt_succ_of_lt b5, Nat.lt_succ_of_lt b6, Nat.lt_succ_of_lt b7⟩ nTO
    ⟨Nat.ne_of_gt b1, Nat.ne_of_gt b2, Nat.ne_of_gt b3, Nat.ne_of_gt b4, Nat.ne_of_gt b5, Nat.ne_of_gt b6, Nat.ne_of_gt b7, Nat.lt_succ_self _⟩ hn hx hend .none
    ⟨.inl ⟨rfl, oth _ _ hz, oth _ _ hTO⟩, oth _ _ hTI, h1.at fun o e => oth _ _ e, h2.at fun o e => oth _ _ e, ⟨o3, oth _ _ ho3, (by assumption)⟩, ⟨o4, oth _ _ ho4, (by assumption)⟩, fun j hj => absurd hj (Nat.not_lt_zero j), hsz⟩ hS₂ fun h' c' kp hS' hp => ?_
  exact ⟨rfl, hQ h' c' (fun b o c1 c2 c3 c4 e => kp b o (Nat.ne_of_lt (lt e)) c1 c2 c3 c4 (oth b o e)) hS' hp⟩
end
end RZ
end
section
set_option Elab.async false
set_option linter.all false
set_option maxRecDepth 100000
set_option maxHeartbeats 2000000
namespace DL
open PySem PySem.Spec PyProof.Rows L2 Evl
section
variable {X : Cx}
/-- list(zip(e, e2)) of two tuples: a new list of new pairs -/
def tListZip (K : PySem.W.Frag) (ta : TA) : TE := fun σ H Q => ta σ H fun vs H1 => ∃ a b xs ys, vs = [.ref a, .ref b] ∧ SqT K H1 a xs ∧ SqT K H1 b ys ∧
  ∀ (p B : Addr) (H' : Hp), H1 p = none → Ex H1 H' → H' p = some (.lst ((List.range (min xs.length ys.length)).map fun j => V.ref (B + j))) →
    (∀ j x y, xs[j]? = some x → ys[j]? = some y → H1 (B + j) = none ∧ H' (B + j) = some (.tup [x, y])) → Q (.ref p) H'
theorem pe_listZip {e e2 : Expr} {ta : TA} {p1 p2 pos2 pos : Pos} (hc : X.calm = true) (hgl : Gl X "list") (hml : X.mg "list" = none) (hg : Gl X "zip") (hm : X.mg "zip" = none) (ha : PA X [e, e2] ta)
    (hs : starEach [e, e2] X.env = (false, eval e X.env) :: starEach [e2] X.env := by rfl) (hpl : (backTo pos2 (starEach [e2] X.env)).any (·.1) = false := by rfl)
    (na : starEach [.Call (.Name "zip" p2) [e, e2] [] pos2] X.env = (false, eval (.Call (.Name "zip" p2) [e, e2] [] pos2) X.env) :: starEach [] X.env := by rfl) :
    PE X (.Call (.Name "list" p1) [.Call (.Name "zip" p2) [e, e2] [] pos2] [] pos) (tListZip X.K ta) := by
  refine ⟨fun pins s σ H Q I h => ?_⟩
  refine Call_ (ld_blt I hgl hml boot_list (PyProof.Rows.callWith_type1 (args_cons (Call_ (ld_blt I hg hm PyProof.Rows.boot_zip (PyProof.Rows.callWith_type1 (thn (ha.run pos2 pins s σ H _ I h) fun us s1 ⟨vs, H1, I1, r1, q1⟩ => ?_) hs hpl))) na) na))
  obtain ⟨a, b, xs, ys, ex, hqx, hqy, q⟩ := q1
  subst ex
  cases r1 with
  | cons r rr =>
    cases rr with
    | cons r' rr =>
      cases rr
      cases r
      cases r'
      obtain ⟨its, rv, p1, hz1⟩ := I1.tuple hqx
      obtain ⟨its2, rv2, p2, hz2⟩ := I1.tuple hqy
      obtain ⟨o1, ho1, _⟩ := id p1
      obtain ⟨o2, ho2, _⟩ := id p2
      have l1 := Heap.lt_size ho1
      have l2 := Heap.lt_size ho2
      refine RZ.call_zipT (show s1.heap.IsTuple a its.toArray from p1) (show s1.heap.IsTuple b its2.toArray from p2) fun h' hz hTI hTO h1 h2 hsz hk => ?_
      refine args_nil ?_
      have I2 : Inv X pins σ H1 { s1 with heap := h' } := I1.kept (t' := s1.toks) hk
      have D := PySem.W.ktu_apart s1.heap.objs.size a b l1 l2
      have e1 := rv.length
      have e2 := rv2.length
      have hn : min xs.length ys.length ≤ sizeLine := Nat.le_trans (Nat.min_le_left _ _) hz1
      have hx : ∀ k, k < min xs.length ys.length → ∃ x y, its.toArray[k]? = some x ∧ its2.toArray[k]? = some y := fun k hk => by
        have k1 : k < its.toArray.size := by rw [List.size_toArray, ← e1]; omega
        have k2 : k < its2.toArray.size := by rw [List.size_toArray, ← e2]; omega
        exact ⟨_, _, Array.getElem?_eq_getElem k1, Array.getElem?_eq_getElem k2⟩
      have hend : its.toArray[min xs.length ys.length]? = none ∨ its2.toArray[min xs.length ys.length]? = none := by
        rcases Nat.le_total xs.length ys.length with hle | hle
        · refine .inl (Array.getElem?_eq_none ?_)
          rw [List.size_toArray, ← e1]; omega
        · refine .inr (Array.getElem?_eq_none ?_)
          rw [List.size_toArray, ← e2]; omega
      refine RZ.call_list_zip (s := { s1 with heap := h' }) (n := min xs.length ys.length) (I1.ok.hd hc) D
        ⟨by show @Ne Nat _ _; omega, Nat.ne_of_gt (Nat.lt_of_lt_of_le l1 (Nat.le_add_right _ _)), Nat.ne_of_gt (Nat.lt_of_lt_of_le l2 (Nat.le_add_right _ _)), by show @Ne Nat _ _; omega, by show @Ne Nat _ _; omega, by show @Ne Nat _ _; omega, by show @Ne Nat _ _; omega, by show @Ne Nat _ _; omega, by show @Ne Nat _ _; omega⟩
        hz hTI hTO h1 h2 ⟨o1, hk _ _ ho1, (by assumption)⟩ ⟨o2, hk _ _ ho2, (by assumption)⟩ hn hx hend fun h3 c' kp hS hp => ?_
      have hB : h'.objs.size = s1.heap.objs.size + 5 := hsz
      have lt : ∀ {c : Nat} {o : Obj}, s1.heap.get? c = some o → c < s1.heap.objs.size := fun e => Heap.lt_size e
      have kp' : ∀ c o, s1.heap.get? c = some o → h3.get? c = some o := fun c o e => by
        exact kp c o (Nat.ne_of_lt (Nat.lt_of_lt_of_le (lt e) (Nat.le_add_right _ _))) (Nat.ne_of_lt (Nat.lt_of_lt_of_le (lt e) (Nat.le_add_right _ _))) (Nat.ne_of_lt (lt e)) (Nat.ne_of_lt (Nat.lt_of_lt_of_le (lt e) (Nat.le_add_right _ _))) (hk c o e)
      let P : Nat := h'.objs.size
      let n : Nat := min xs.length ys.length
      let H' : Hp := fun (c : Nat) => if c = P then some (.lst ((List.range n).map fun j => V.ref (P + 1 + j))) else if P + 1 ≤ c ∧ c < P + 1 + n then some (.tup [xs.getD (c - (P + 1)) .non, ys.getD (c - (P + 1)) .non]) else H1 c
      have old : ∀ c : Nat, c < P → H' c = H1 c := fun c hcP => by
        show (if c = P then _ else if P + 1 ≤ c ∧ c < P + 1 + n then _ else H1 c) = H1 c
        rw [if_neg (by omega), if_neg (by omega)]
      have hlt : ∀ {c : Nat} {o : HO}, H1 c = some o → c < P := fun {c o} e => by
        have z : c < s1.heap.objs.size := I1.hok.lt e
        show c < h'.objs.size
        omega
      have exH : Ex H1 H' := fun c o e => by rw [old c (hlt e)]; exact e
      have at_ : ∀ j : Nat, j < n → H' (P + 1 + j) = some (.tup [xs.getD j .non, ys.getD j .non]) := fun j hj => by
        show (if P + 1 + j = P then _ else if P + 1 ≤ P + 1 + j ∧ P + 1 + j < P + 1 + n then _ else _) = _
        rw [if_neg (by omega), if_pos ⟨by omega, by omega⟩]
        have e : P + 1 + j - (P + 1) = j := by omega
        rw [e]
      have atP : H' P = some (.lst ((List.range n).map fun j => V.ref (P + 1 + j))) := if_pos rfl
      have U : Un X.fs [] H1 H' s1.heap h3 := ⟨fun c o e _ _ _ => kp' c o e, fun c o e _ _ _ => ⟨o.slots, kp' c o e⟩, fun (c : Nat) o e n' _ => by
          have := lt e
          rw [old c (by show c < h'.objs.size; omega)]; exact n', fun c o e _ => ⟨o, kp' c o e⟩, fun c zs e => exH c _ e, fun c o zs e => exH c _ e, fun c ps e => ⟨#[], by rw [exH c _ e]; simp⟩⟩
      have hok : HOk X.prog X.w H' h3 := fun (c : Nat) o e => by
        by_cases hcP : c < P
        · rw [old c hcP] at e
          exact (I1.hok c o e).stay (fun d v _ z => kp' d v z) (fun d z => exH d _ z) fun d zs z => exH d _ z
        · by_cases hcE : c = P
          · subst hcE
            rw [atP] at e
            cases e
            refine ⟨by rw [List.length_map, List.length_range]; exact hn, RZ.refsFrom (P + 1) n, c', ?_, hS⟩
            unfold RZ.refsFrom
            have : ∀ l : List Nat, Vals (l.map fun j => V.ref (P + 1 + j)) (l.map fun j => Value.ref (P + 1 + j)) := fun l => by
              induction l with
              | nil => exact .nil
              | cons j l ih => exact .cons rfl ih
            exact this _
          · by_cases hin : P + 1 ≤ c ∧ c < P + 1 + n
            · obtain ⟨j, hj⟩ : ∃ j, c = P + 1 + j := ⟨c - (P + 1), by omega⟩
              subst hj
              have hjn : j < n := by omega
              rw [at_ j hjn] at e
              cases e
              obtain ⟨x, y, ex, ey, epair⟩ := hp j hjn
              have jx : j < xs.length := by have : j < min xs.length ys.length := hjn; omega
              have jy : j < ys.length := by have : j < min xs.length ys.length := hjn; omega
              obtain ⟨u, hu, ru⟩ := rv.get (i := j) (x := xs.getD j .non) (by rw [List.getD_eq_getElem?_getD, List.getElem?_eq_getElem jx]; rfl)
              obtain ⟨u2, hu2, ru2⟩ := rv2.get (i := j) (x := ys.getD j .non) (by rw [List.getD_eq_getElem?_getD, List.getElem?_eq_getElem jy]; rfl)
              have q1 : x = u := by
                have z : its.toArray[j]? = some u := by simpa using hu
                rw [ex] at z; exact Option.some.inj z
              have q2 : y = u2 := by
                have z : its2.toArray[j]? = some u2 := by simpa using hu2
                rw [ey] at z; exact Option.some.inj z
              subst q1 q2
              exact ⟨by show 2 ≤ sizeLine; decide, [x, y], .cons ru (.cons ru2 .nil), ⟨_, epair, rfl, _, rfl⟩⟩
            · have e' : H1 c = some o := by
                have z : H' c = H1 c := by
                  show (if c = P then _ else if P + 1 ≤ c ∧ c < P + 1 + n then _ else H1 c) = H1 c
                  rw [if_neg hcE, if_neg hin]
                rw [← z]; exact e
              exact absurd (hlt e') hcP
      have I3 : Inv X pins σ H' { s1 with heap := h3 } := I1.un (t' := s1.toks) U hok
      refine ⟨.ref P, H', I3, rfl, q P (P + 1) H' ?_ exH atP fun j x y ex ey => ⟨?_, ?_⟩⟩
      · cases z : H1 P with
        | none => rfl
        | some o => exact absurd (hlt z) (Nat.lt_irrefl _)
      · cases z : H1 (P + 1 + j) with
        | none => rfl
        | some o =>
          have := hlt z
          omega
      · have j1 := (List.getElem?_eq_some_iff.mp ex).1
        have j2 := (List.getElem?_eq_some_iff.mp ey).1
        have hjn : j < n := Nat.lt_min.mpr ⟨j1, j2⟩
        rw [at_ j hjn, List.getD_eq_getElem?_getD, ex, List.getD_eq_getElem?_getD, ey]
        rfl
variable {K : PySem.W.Frag} {H : Hp} {σ : L2.St} {ds es : List PyData}
theorem ed_listZip {ta : TA} (h : EvDA K ta σ H [.tuple ds, .tuple es]) : EvD K (tListZip K ta) σ H (.list (List.zipWith (fun d e => .tuple [d, e]) ds es)) := fun M H1 e Q q =>
  h M H1 e _ fun vs H2 e2 r => by
    have x2 := e.step e2
    obtain ⟨v, w, rfl, r1, r2⟩ := dpa2 r
    cases r1 with
    | tup hs ha =>
      cases r2 with
      | tup ht hb =>
        refine ⟨_, _, _, _, rfl, hst hs, hst ht, fun p B H' hp ex hl hq => q _ H' (e2.trans ex) (.lst (sq_of (by rw [hid_no (x2.fresh hp)]; exact hl)) ?_)⟩
        have key : ∀ (xs ys : List V) (ds es : List PyData) (B : Nat), DpAll K (hid M H2) xs ds → DpAll K (hid M H2) ys es → (∀ j x y, xs[j]? = some x → ys[j]? = some y → H2 (B + j) = none ∧ H' (B + j) = some (.tup [x, y])) →
            DpAll K (hid M H') ((List.range (min xs.length ys.length)).map fun j => V.ref (B + j)) (List.zipWith (fun d e => .tuple [d, e]) ds es) := by
          intro xs
          induction xs with
          | nil =>
            intro ys ds es B h1 h2 hq
            have e1 := dpa_len h1
            have e3 : ds = [] := List.eq_nil_of_length_eq_zero e1.symm
            subst e3
            simp
            exact .nil
          | cons x xs ih =>
            intro ys ds es B h1 h2 hq
            cases h1 with
            | cons hx hxs =>
              cases h2 with
              | nil => simp; exact .nil
              | @cons y ys' e0 es' hy hys =>
                have em : min (x :: xs).length (y :: ys').length = min xs.length ys'.length + 1 := by simp only [List.length_cons]; omega
                rw [em, List.range_succ_eq_map, List.map_cons, List.map_map, List.zipWith_cons_cons]
                obtain ⟨q1, q2⟩ := hq 0 x y rfl rfl
                have nM : ¬ M (B + 0) := x2.fresh q1
                have sub : Ex (hid M H2) (hid M H') := hid_ex ex
                refine .cons (.tup (st_of (by rw [hid_no nM]; exact q2)) (.cons (Dpx sub hx) (.cons (Dpx sub hy) .nil))) ?_
                have := ih ys' _ es' (B + 1) hxs hys fun j x' y' e1 e2 => by
                  have z := hq (j + 1) x' y' (by simpa using e1) (by simpa using e2)
                  have ea : B + 1 + j = B + (j + 1) := by omega
                  rw [ea]
                  exact z
                have ef : (fun j => V.ref (B + 1 + j)) = (fun j => V.ref (B + j)) ∘ Nat.succ := funext fun j => by
                  show V.ref (B + 1 + j) = V.ref (B + (j + 1))
                  have ea : B + 1 + j = B + (j + 1) := by omega
                  rw [ea]
                rw [ef] at this
                exact this
        exact key _ _ ds es B ha hb hq
end
end DL
end
section
set_option Elab.async false
set_option linter.all false
set_option maxRecDepth 100000
set_option maxHeartbeats 2000000
/-! More rules by data: order of pairs, isinstance, all, min, max, is, in, int, abs, powers, repr. -/
namespace DL
open PySem PySem.Spec PyProof.Rows L2 Evl
/-! ### (a, b) > (c, d) -/
section
variable {X : Cx}
def rGtT (K : PySem.W.Frag) : R2 := fun x y H Q => ∃ (a b : Addr) (i j k l : Int), x = .ref a ∧ y = .ref b ∧ SqT K H a [.int i, .int j] ∧ SqT K H b [.int k, .int l] ∧ Q (.bl (if i = k then decide (l < j) else decide (k < i))) H
theorem op_gtT (hu : X.A.units < cLine) : OpR X (compareOp .Gt) (rGtT X.K) := by
  intro pins s σ H x y v u Q I rx ry h
  obtain ⟨a, b, i, j, k, l, rfl, rfl, ha, hb, q⟩ := h
  cases rx
  cases ry
  obtain ⟨its, r1, p1, _⟩ := I.tuple ha
  obtain ⟨its2, r2, p2, _⟩ := I.tuple hb
  obtain ⟨u1, u2, rfl, q1, q2⟩ := Vals.two r1
  obtain ⟨w1, w2, rfl, q3, q4⟩ := Vals.two r2
  obtain ⟨t1, rfl⟩ := q1
  obtain ⟨t2, rfl⟩ := q2
  obtain ⟨t3, rfl⟩ := q3
  obtain ⟨t4, rfl⟩ := q4
  have R := Ob.RcOp.tuples_gt (A := X.A) (s := s) (e := fun n => if n = 0 then (i == k) else (j == l)) (r := fun n => if n = 0 then decide (k < i) else decide (l < j)) p1 p2 hu (fun n h1 h2 => by
    match n, h1, h2 with
    | 0, _, _ => exact SeqAt.EqAt.int_int i t1 k t3
    | 1, _, _ => exact SeqAt.EqAt.int_int j t2 l t4
    | n + 2, h1, _ => exact absurd h1 (by simp)) (fun n h1 h2 _ => by
    match n, h1, h2 with
    | 0, _, _ => exact Ob.RcOp.gt_int i k t1 t3
    | 1, _, _ => exact Ob.RcOp.gt_int j l t2 t4
    | n + 2, h1, _ => exact absurd h1 (by simp))
  have z : wpAny (model X.prog X.w) X.A (compareOp .Gt (.ref a) (.ref b)) (EP X pins σ Q) X.xe s := R X.prog X.w X.xe (EP X pins σ Q) ⟨.bl _, H, I, rfl, ?_⟩
  · exact z
  · have e : Ob.lexAt (fun n => if n = 0 then (i == k) else (j == l)) (fun n => if n = 0 then decide (k < i) else decide (l < j)) (decide ((#[Value.int k t3, Value.int l t4] : Array Value).size < (#[Value.int i t1, Value.int j t2] : Array Value).size)) 0 (min (#[Value.int i t1, Value.int j t2] : Array Value).size (#[Value.int k t3, Value.int l t4] : Array Value).size)
        = (if i = k then decide (l < j) else decide (k < i)) := by
      show (if (if (0 : Nat) = 0 then (i == k) else (j == l)) = true then (if (if (0 + 1 : Nat) = 0 then (i == k) else (j == l)) = true then decide ((2 : Nat) < 2) else (if (0 + 1 : Nat) = 0 then decide (k < i) else decide (l < j))) else (if (0 : Nat) = 0 then decide (k < i) else decide (l < j))) = _
      simp only [if_true, Nat.zero_add, Nat.one_ne_zero, if_false, beq_iff_eq]
      by_cases h1 : i = k
      · rw [if_pos h1, if_pos h1]
        by_cases h2 : j = l
        · rw [if_pos h2, h2]
          simp
        · rw [if_neg h2]
      · rw [if_neg h1, if_neg h1]
    exact (congrArg (fun b => Q (.bl b) H) e).mpr q
variable {K : PySem.W.Frag} {H : Hp} {d e : PyData} {σ : L2.St} {te ta tb : TE} {ds : List PyData}
theorem rd_gtT {i j k l : Int} : RD K (rGtT K) H (.tuple [.int i, .int j]) (.tuple [.int k, .int l]) (.bool (if i = k then decide (l < j) else decide (k < i))) := fun M x y H1 _ rx ry Q q => by
  cases rx with
  | tup hs ha =>
    cases ry with
    | tup ht hb =>
      obtain ⟨x1, x2, rfl, r1, r2⟩ := dpa2 ha
      obtain ⟨y1, y2, rfl, r3, r4⟩ := dpa2 hb
      cases r1; cases r2; cases r3; cases r4
      exact ⟨_, _, i, j, k, l, rfl, rfl, hst hs, hst ht, q _ H1 (Ex.refl H1) (.bl _)⟩
/-! ### isinstance -/
def tyD : PyData → String
  | .none => "NoneType"
  | .bool _ => "bool"
  | .int _ => "int"
  | .str _ => "str"
  | .list _ => "list"
  | .tuple _ => "tuple"
  | .dict _ => "dict"
theorem tyx_of (r : Dp K H v d) : TyX K H v (.type (tyD d)) := by
  cases r with
  | non => exact .base .non
  | bl b => exact .base (.bl b)
  | int i => exact .base (.int i)
  | str x => exact .base (.str x)
  | lst hs _ =>
    rcases hs with (h | ⟨o, h⟩) | ⟨o, its, n, h, hc, _⟩
    · exact .base (.lst h)
    · exact .base (.frz h)
    · exact .kList h hc
  | tup hs _ =>
    rcases hs with (h | ⟨o, h⟩) | ⟨o, its, n, h, hc, _⟩
    · exact .base (.tup h)
    · exact .fTuple h
    · exact .kTuple h hc
def isInt : PyData → Bool
  | .bool _ => true
  | .int _ => true
  | _ => false
def isBool : PyData → Bool
  | .bool _ => true
  | _ => false
def isTup : PyData → Bool
  | .tuple _ => true
  | _ => false
def isStr : PyData → Bool
  | .str _ => true
  | _ => false
theorem kit_all : ∀ T ∈ ["NoneType", "bool", "int", "str", "list", "tuple", "dict"], kitB T "int" = some (T == "bool" || T == "int") ∧ kitB T "bool" = some (T == "bool") ∧ kitB T "tuple" = some (T == "tuple") ∧ kitB T "str" = some (T == "str") := by decide +kernel
theorem ty_mem (d : PyData) : tyD d ∈ ["NoneType", "bool", "int", "str", "list", "tuple", "dict"] := by cases d <;> simp [tyD]
theorem kit_int (d : PyData) : kitB (tyD d) "int" = some (isInt d) := by rw [(kit_all _ (ty_mem d)).1]; cases d <;> rfl
theorem kit_bool (d : PyData) : kitB (tyD d) "bool" = some (isBool d) := by rw [(kit_all _ (ty_mem d)).2.1]; cases d <;> rfl
theorem kit_tup (d : PyData) : kitB (tyD d) "tuple" = some (isTup d) := by rw [(kit_all _ (ty_mem d)).2.2.1]; cases d <;> rfl
theorem kit_str (d : PyData) : kitB (tyD d) "str" = some (isStr d) := by rw [(kit_all _ (ty_mem d)).2.2.2]; cases d <;> rfl
theorem ed_isi {T : String} {b : Bool} (h : EvD K te σ H d) (hk : kitB (tyD d) T = some b) : EvD K (tCB (rIsi K) (tCons te (tCons (tC (.ty T)) tNil))) σ H (.bool b) := fun M H1 e Q q =>
  h M H1 e _ fun v H2 e2 r => ⟨v, .ty T, .type (tyD d), .type T, b, rfl, .ty T, tyx_of (Dpx hid_sub r), kit_ty hk, q _ H2 e2 (.bl b)⟩
/-! ### all, any, min, max, sum of lists -/
theorem rc_all {bs : List Bool} : RCD K (rAll K) H [.list (bs.map .bool)] (.bool (bs.all id)) := fun M vs H1 x r Q q => by
  obtain ⟨v, rfl, r'⟩ := dpa1 r
  cases r' with
  | lst hs ha => exact ⟨_, bs, rfl, by rw [← dpa_bls_inv ha]; exact hsl hs, q _ H1 (Ex.refl H1) (.bl _)⟩
theorem rc_any {bs : List Bool} : RCD K (rAny K) H [.list (bs.map .bool)] (.bool (bs.any id)) := fun M vs H1 x r Q q => by
  obtain ⟨v, rfl, r'⟩ := dpa1 r
  cases r' with
  | lst hs ha => exact ⟨_, bs, rfl, by rw [← dpa_bls_inv ha]; exact hsl hs, q _ H1 (Ex.refl H1) (.bl _)⟩
theorem rc_min {ns : List Int} {m : Int} (hm : m ∈ ns) (hl : ∀ y ∈ ns, m ≤ y) : RCD K (rMin K) H [.list (ns.map .int)] (.int m) := fun M vs H1 x r Q q => by
  obtain ⟨v, rfl, r'⟩ := dpa1 r
  cases r' with
  | lst hs ha =>
    refine ⟨_, ns, rfl, by rw [← dpa_ints_inv ha]; exact hsl hs, List.length_pos_of_mem hm, fun m' h1 h2 => ?_⟩
    have : m' = m := by
      have a := h2 m hm
      have b := hl m' h1
      omega
    subst this
    exact q _ H1 (Ex.refl H1) (.int _)
theorem rc_max {ns : List Int} {m : Int} (hm : m ∈ ns) (hl : ∀ y ∈ ns, y ≤ m) : RCD K (rMax K) H [.list (ns.map .int)] (.int m) := fun M vs H1 x r Q q => by
  obtain ⟨v, rfl, r'⟩ := dpa1 r
  cases r' with
  | lst hs ha =>
    refine ⟨_, ns, rfl, by rw [← dpa_ints_inv ha]; exact hsl hs, List.length_pos_of_mem hm, fun m' h1 h2 => ?_⟩
    have : m' = m := by
      have a := h2 m hm
      have b := hl m' h1
      omega
    subst this
    exact q _ H1 (Ex.refl H1) (.int _)
/-- max(a, b), min(a, b) -/
def rMax2' : List V → Hp → VK → Prop := fun xs H Q => ∃ i j, xs = [.int i, .int j] ∧ Q (.int (if j > i then j else i)) H
def rMin2' : List V → Hp → VK → Prop := fun xs H Q => ∃ i j, xs = [.int i, .int j] ∧ Q (.int (if j < i then j else i)) H
theorem call_max2' (hc : X.calm = true) : CallR X (.builtin "max") rMax2' := call_max2 hc
theorem call_min2' (hc : X.calm = true) : CallR X (.builtin "min") rMin2' := call_min2 hc
theorem rc_max2 {i j : Int} : RCD K rMax2' H [.int i, .int j] (.int (max i j)) := fun M vs H1 x r Q q => by
  obtain ⟨v, w, rfl, r1, r2⟩ := dpa2 r
  cases r1; cases r2
  refine ⟨i, j, rfl, ?_⟩
  have e : (if j > i then j else i) = max i j := by split <;> omega
  rw [e]
  exact q _ H1 (Ex.refl H1) (.int _)
theorem rc_min2 {i j : Int} : RCD K rMin2' H [.int i, .int j] (.int (min i j)) := fun M vs H1 x r Q q => by
  obtain ⟨v, w, rfl, r1, r2⟩ := dpa2 r
  cases r1; cases r2
  refine ⟨i, j, rfl, ?_⟩
  have e : (if j < i then j else i) = min i j := by split <;> omega
  rw [e]
  exact q _ H1 (Ex.refl H1) (.int _)
def rAbs : List V → Hp → VK → Prop := fun xs H Q => ∃ i, xs = [.int i] ∧ Q (.int (if i < 0 then -i else i)) H
theorem call_abs' : CallR X (.builtin "abs") rAbs := call_abs
theorem rc_abs {i : Int} : RCD K rAbs H [.int i] (.int (i.natAbs : Int)) := fun M vs H1 x r Q q => by
  obtain ⟨v, rfl, r1⟩ := dpa1 r
  cases r1
  refine ⟨i, rfl, ?_⟩
  have e : (if i < 0 then -i else i) = (i.natAbs : Int) := by split <;> omega
  rw [e]
  exact q _ H1 (Ex.refl H1) (.int _)
def rInt1 : List V → Hp → VK → Prop := fun xs H Q => (∃ i, xs = [.int i] ∧ Q (.int i) H) ∨ ∃ k, xs = [.bl k] ∧ Q (.int (if k then 1 else 0)) H
theorem call_int' : CallR X (.type "int") rInt1 := call_int1
theorem rc_int {i : Int} : RCD K rInt1 H [.int i] (.int i) := fun M vs H1 x r Q q => by
  obtain ⟨v, rfl, r1⟩ := dpa1 r
  cases r1
  exact .inl ⟨i, rfl, q _ H1 (Ex.refl H1) (.int _)⟩
theorem rc_intB {b : Bool} : RCD K rInt1 H [.bool b] (.int (if b then 1 else 0)) := fun M vs H1 x r Q q => by
  obtain ⟨v, rfl, r1⟩ := dpa1 r
  cases r1
  exact .inr ⟨b, rfl, q _ H1 (Ex.refl H1) (.int _)⟩
/-! ### is, is not of bools; in, not in among texts -/
theorem rd_isB {a b : Bool} : RD K rIsB H (.bool a) (.bool b) (.bool (decide (a = b))) := fun M x y H1 _ rx ry Q q => by
  cases rx; cases ry
  exact ⟨a, b, rfl, rfl, q _ H1 (Ex.refl H1) (.bl _)⟩
theorem rd_notB {a b : Bool} : RD K rNotB H (.bool a) (.bool b) (.bool (!decide (a = b))) := fun M x y H1 _ rx ry Q q => by
  cases rx; cases ry
  exact ⟨a, b, rfl, rfl, q _ H1 (Ex.refl H1) (.bl _)⟩
theorem dpa_strs_inv : ∀ {ns : List Str} {vs : List V}, DpAll K H vs (ns.map PyData.str) → vs = ns.map V.str
  | [], _, h => by cases h; rfl
  | n :: ns, _, h => by
    cases h with
    | cons h1 h2 =>
      cases h1
      exact congrArg _ (dpa_strs_inv h2)
theorem flat_strs (zs : List Str) : (zs.map V.str).all flatV = true := by
  rw [List.all_map]
  exact List.all_eq_true.mpr fun z _ => rfl
theorem inV_str (z : Str) (zs : List Str) : inV (.str z) (zs.map V.str) = zs.contains z := by
  unfold inV
  rw [List.any_map]
  induction zs with
  | nil => rfl
  | cons y ys ih =>
    rw [List.any_cons, List.contains_cons, ih]
    have : (((fun y => eqV y (V.str z)) ∘ V.str) y) = (z == y) := by
      show eqV (V.str y) (V.str z) = (z == y)
      unfold eqV
      by_cases e : z = y
      · subst e; simp
      · have e1 : (z == y) = false := beq_eq_false_iff_ne.mpr e
        have e2 : (y == z) = false := beq_eq_false_iff_ne.mpr (Ne.symm e)
        rw [e1]; simp [e2, Ne.symm e]
    rw [this]
theorem rd_inS {z : Str} {zs : List Str} : RD K (rIn K false) H (.str z) (.tuple (zs.map .str)) (.bool (zs.contains z)) := fun M x y H1 _ rx ry Q q => by
  cases rx
  cases ry with
  | tup ht hb =>
    have e := dpa_strs_inv hb
    subst e
    refine ⟨_, _, rfl, .inr (hst ht), rfl, flat_strs _, ?_⟩
    show Q (.bl (inV (.str z) (zs.map V.str))) H1
    rw [inV_str]
    exact q _ H1 (Ex.refl H1) (.bl _)
theorem rd_ninS {z : Str} {zs : List Str} : RD K (rIn K true) H (.str z) (.tuple (zs.map .str)) (.bool (!zs.contains z)) := fun M x y H1 _ rx ry Q q => by
  cases rx
  cases ry with
  | tup ht hb =>
    have e := dpa_strs_inv hb
    subst e
    refine ⟨_, _, rfl, .inr (hst ht), rfl, flat_strs _, ?_⟩
    show Q (.bl (!inV (.str z) (zs.map V.str))) H1
    rw [inV_str]
    exact q _ H1 (Ex.refl H1) (.bl _)
/-! ### lists: +, *; texts: + -/
def rCatS (K : PySem.W.Frag) : R2 := fun x y H Q => ∃ l b xs zs, x = .ref l ∧ y = .ref b ∧ SqL K H l xs ∧ SqL K H b zs ∧ xs.length + zs.length ≤ sizeLine ∧ ∀ p, H p = none → Q (.ref p) (upd H p (.lst (xs ++ zs)))
theorem op_catS : OpR X (binaryOp .Add) (rCatS X.K) := by
  intro pins s σ H x y v u Q I rx ry h
  obtain ⟨l, b, xs, zs, rfl, rfl, hl, hb, hz, q⟩ := h
  cases rx
  cases ry
  obtain ⟨its, r1, ⟨⟨c1, d1, dt1, sl1⟩, n1, ho1, hc1, hd1, hs1⟩, z1⟩ := I.list hl
  obtain ⟨its2, r2, ⟨⟨c2, d2, dt2, sl2⟩, n2, ho2, hc2, hd2, hs2⟩, z2⟩ := I.list hb
  simp only at hc1 hs1 hc2 hs2
  subst hc1 hs1 hc2 hs2
  have e1 := r1.length
  have e2 := r2.length
  refine concat_meets ⟨_, ho1, rfl⟩ ⟨_, ho2, rfl⟩ noFill_list_add seq_list_add PySem.F.slot_list_add PySem.F.entry_list_add (PySem.F.args_list_add_2 _ _)
    (list_addW l b its.toArray its2.toArray n1 n2 d1 d2 sl1 sl2 (by rw [List.size_toArray, List.size_toArray]; omega)) ⟨ho1, ho2, ?_⟩
  have ea : its.toArray ++ its2.toArray = (its ++ its2).toArray := by simp
  rw [ea]
  exact ⟨.ref _, _, I.lnew (t' := s.toks) (r1.append r2) (by rw [List.length_append]; omega), rfl, q _ I.fresh⟩
theorem rd_cat {es : List PyData} (hl : ds.length + es.length ≤ 100000) : RD K (rCatS K) H (.list ds) (.list es) (.list (ds ++ es)) := fun M x y H1 eM rx ry Q q => by
  cases rx with
  | lst hs ha =>
    cases ry with
    | lst ht hb =>
      exact ⟨_, _, _, _, rfl, rfl, hsl hs, hsl ht, sz_of (by rw [dpa_len ha, dpa_len hb]; exact hl), fun p hp => q _ _ (Ex.new hp) (new_lst hp (eM.fresh hp) (dpa_append ha hb))⟩
theorem dpa_rep : ∀ (k : Nat) {vs : List V}, DpAll K H vs ds → DpAll K H (List.replicate k vs).flatten (List.replicate k ds).flatten
  | 0, _, _ => .nil
  | k + 1, vs, h => by
    rw [List.replicate_succ, List.replicate_succ, List.flatten_cons, List.flatten_cons]
    exact dpa_append h (dpa_rep k h)
/-- a display times a written number -/
theorem ed_rep {ta : TA} {k : Int} (h : EvDA K ta σ H ds) (hl : ds.length ≤ 1000) (hk : 0 ≤ k ∧ k ≤ 100) : EvD K (tOp rRep (tLst ta) (tC (.int k))) σ H (.list (List.replicate k.toNat ds).flatten) := fun M H1 e Q q =>
  h M H1 e _ fun vs H2 e2 r => by
    have l := dpa_len r
    refine ⟨sz_of (by omega), fun p hp => ⟨p, k, vs, rfl, rfl, upd_same, by omega, by omega, sz_of ?_, fun p2 hp2 => ?_⟩⟩
    · rw [l]
      exact Nat.le_trans (Nat.mul_le_mul hl (by omega : k.toNat ≤ 100)) (by omega)
    · have x2 := (e.step e2)
      have x3 := x2.step (Ex.new hp (o := .lst vs))
      exact q _ _ ((e2.trans (Ex.new hp)).trans (Ex.new hp2)) (new_lst hp2 (x3.fresh hp2) (dpa_rep _ (dpah M (Ex.new hp) r)))
def rAddS : R2 := fun x y H Q => ∃ i j, x = .str i ∧ y = .str j ∧ i.length + j.length ≤ sizeLine ∧ Q (.str (i ++ j)) H
theorem op_addS : OpR X (binaryOp .Add) rAddS := op_add_str
theorem rd_addS {a b : Str} (hl : a.length + b.length ≤ 100000) : RD K rAddS H (.str a) (.str b) (.str (a ++ b)) := fun M x y H1 _ rx ry Q q => by
  cases rx; cases ry
  exact ⟨a, b, rfl, rfl, sz_of hl, q _ H1 (Ex.refl H1) (.str _)⟩
/-! ### powers of any base -/
def CPowW (i j : Int) : Prop := 0 ≤ j ∧ (Builtin.Int.intBits i : Int) * j ≤ 2 ^ 27
theorem op_powW : OpR X (binaryOp .Pow) (rI CPowW fun i j => .int (i ^ j.toNat)) := opI fun _ _ _ _ _ _ _ hc q => pow_int hc.1 hc.2 q
theorem rd_pow {i j : Int} (hc : CPowW i j) : RD K (rI CPowW fun i j => .int (i ^ j.toNat)) H (.int i) (.int j) (.int (i ^ j.toNat)) := rd_I hc fun _ => .int _
theorem rd_mod {i j : Int} (hc : 0 < j) : RD K (rI (fun _ j => 0 < j) fun i j => .int (i % j)) H (.int i) (.int j) (.int (i % j)) := rd_I hc fun _ => .int _
theorem rd_fdivW {i j : Int} (hc : CDivW i j) : RD K (rI CDivW fun i j => .int (i / j)) H (.int i) (.int j) (.int (i / j)) := rd_I hc fun _ => .int _
theorem rd_mul {i j : Int} (hc : CMul i j) : RD K (rI CMul fun i j => .int (i * j)) H (.int i) (.int j) (.int (i * j)) := rd_I hc fun _ => .int _
/-! ### repr of None, bools, ints, texts -/
def reprD : PyData → Str
  | .none => "None"
  | .bool b => if b then "True" else "False"
  | .int i => toString i
  | .str x => reprText x
  | .tuple [] => "()"
  | _ => ""
def rRepr : List V → Hp → VK → Prop := fun xs H Q => xs = [.non] ∧ Q (.str "None") H ∨ (∃ b, xs = [.bl b] ∧ Q (.str (if b then "True" else "False")) H) ∨ (∃ i, xs = [.int i] ∧ i.natAbs.log2 < 1920 ∧ Q (.str (toString i)) H) ∨ ∃ x, xs = [.str x] ∧ (reprText x).length ≤ sizeLine ∧ Q (.str (reprText x)) H
theorem call_repr : CallR X (.builtin "repr") rRepr := by
  intro pins s σ H xs us Q I r h
  rcases h with ⟨rfl, q⟩ | ⟨b, rfl, q⟩ | ⟨i, rfl, hz, q⟩ | ⟨x, rfl, hz, q⟩
  · obtain ⟨u, rfl, e⟩ := vals1 r
    cases e
    exact PySem.P.repr_of_none ⟨.str _, H, I.tok _, ⟨_, rfl⟩, q⟩
  · obtain ⟨u, rfl, e⟩ := vals1 r
    cases e
    exact PySem.P.repr_of_bool ⟨.str _, H, I.tok _, ⟨_, rfl⟩, q⟩
  · obtain ⟨u, rfl, t, rfl⟩ := vals1 r
    exact PySem.P.repr_of_int hz ⟨.str _, H, I.tok _, ⟨_, rfl⟩, q⟩
  · obtain ⟨u, rfl, t, rfl⟩ := vals1 r
    exact PySem.P.repr_of_str ⟨.str _, H, I.tok _, ⟨_, rfl⟩, q⟩ hz
end
end DL
end
section
set_option Elab.async false
set_option linter.all false
set_option maxRecDepth 100000
set_option maxHeartbeats 2000000
/-! Defs by data: what a def of the text is for its callers; loops. -/
namespace DL
open PySem PySem.Spec PyProof.Rows L2 Evl
/-! ### operators of several kinds -/
section
variable {X : Cx}
abbrev rAddG (K : PySem.W.Frag) : R2 := fun x y H Q => rI0 (fun i j => .int (i + j)) x y H Q ∨ (rCatA K x y H Q ∨ (rCatS K x y H Q ∨ rAddS x y H Q))
theorem op_addG : OpR X (binaryOp .Add) (rAddG X.K) := op_add.or (op_catA.or (op_catS.or op_addS))
abbrev rGtG (K : PySem.W.Frag) : R2 := fun x y H Q => rI0 (fun i j => .bl (decide (j < i))) x y H Q ∨ rGtT K x y H Q
theorem op_gtG (hu : X.A.units < cLine) : OpR X (compareOp .Gt) (rGtG X.K) := op_gt.or (op_gtT hu)
theorem op_ltG : OpR X (compareOp .Lt) (rI0 fun i j => .bl (decide (i < j))) := op_lt
theorem op_leG : OpR X (compareOp .LtE) (rI0 fun i j => .bl (decide (i ≤ j))) := op_le
theorem op_geG : OpR X (compareOp .GtE) (rI0 fun i j => .bl (decide (j ≤ i))) := op_ge
variable {K : PySem.W.Frag} {H : Hp} {d e f : PyData} {ds es : List PyData} {a b : Str} {i j : Int}
theorem RD.inl {r r' : R2} (h : RD K r H d e f) : RD K (fun x y H Q => r x y H Q ∨ r' x y H Q) H d e f := fun M x y H1 z rx ry Q q => .inl (h M x y H1 z rx ry Q q)
theorem RD.inr {r r' : R2} (h : RD K r' H d e f) : RD K (fun x y H Q => r x y H Q ∨ r' x y H Q) H d e f := fun M x y H1 z rx ry Q q => .inr (h M x y H1 z rx ry Q q)
theorem rg_add : RD K (rAddG K) H (.int i) (.int j) (.int (i + j)) := rd_add.inl
theorem rg_catT (hl : ds.length + es.length ≤ 100000) : RD K (rAddG K) H (.tuple ds) (.tuple es) (.tuple (ds ++ es)) := (RD.inl (rd_catT hl)).inr
theorem rg_catL (hl : ds.length + es.length ≤ 100000) : RD K (rAddG K) H (.list ds) (.list es) (.list (ds ++ es)) := (RD.inr (RD.inl (rd_cat hl))).inr
theorem rg_catS (hl : a.length + b.length ≤ 100000) : RD K (rAddG K) H (.str a) (.str b) (.str (a ++ b)) := (RD.inr (RD.inr (rd_addS hl))).inr
theorem rg_gt : RD K (rGtG K) H (.int i) (.int j) (.bool (decide (j < i))) := rd_gt.inl
theorem rg_gtT {k l : Int} : RD K (rGtG K) H (.tuple [.int i, .int j]) (.tuple [.int k, .int l]) (.bool (if i = k then decide (l < j) else decide (k < i))) := rd_gtT.inr
end
section
variable {K : PySem.W.Frag} {H : Hp} {σ : L2.St} {te ta tb : TE} {d e : PyData}
theorem ed_ifv {t : TT} {b : Bool} (h : EvB K t σ H b) (h1 : b = true → EvD K ta σ H d) (h2 : b = false → EvD K tb σ H e) : EvD K (tIf t ta tb) σ H (if b = true then d else e) :=
  ed_if h (fun z => by rw [if_pos z]; exact h1 z) (fun z => by rw [if_neg (by rw [z]; decide)]; exact h2 z)
theorem ed_neg {i : Int} (h : EvD K te σ H (.int i)) : EvD K (tUn (rU fun i => .int (-i)) te) σ H (.int (-i)) := fun M H1 e Q q => h M H1 e _ fun v H2 e2 r => by
  cases r
  exact ⟨i, rfl, q _ H2 e2 (.int _)⟩
end
/-! ### a def of the text, for its callers -/
abbrev FnP (K : PySem.W.Frag) (x : Str) (st : Stmt) (f : Addr) (fd : FuncData) : Prop := FunD K x x (defArgs st) (defBody st) (defScope st) [] [] f fd
structure Cal (P : Program) (w : World) (K : PySem.W.Frag) (mg : Str → Option Value) (base : Heap) (x : Str) (k : Nat) (ps : List Str) (sp : Sp) : Prop where
  ex : ∃ f fd, FnOk P w K mg base (L2.CX P w) k f fd ps sp ∧ mg x = some (.ref f) ∧ PySem.W.keepIn K (.ref f) = true ∧ Binds K fd ps []
section
variable {P : Program} {w : World} {K : PySem.W.Frag} {mg : Str → Option Value} {base : Heap} {x : Str} {st : Stmt} {f : Addr} {fd : FuncData} {N ps : List Str} {k : Nat} {sp : Sp}
theorem cal_mk (F : FnP K x st f fd) (hm : mg x = some (.ref f)) (S : FnScope N ps (defScope st)) (hb : Binds K fd ps []) (len : ∀ vs H Q E, sp vs H Q E → vs.length = ps.length)
    (hbody : ∀ (cdv : Value) (A : Around) (outer : List Env) (s : Shared) (H : Hp) (vs : List V) (Q : VK) (E : XK), Room k (A.deeper (envOfC x (defScope st) s.heap.objs.size f cdv)) → sp vs H Q E →
      ∃ t, PSs (cxOf (L2.CX P w) P w K mg base N x (defScope st) f cdv A outer s H E) (defBody st) t ∧ t { nx := fun _ H' => Q .non H', rt := Q } (start N vs) H) : Cal P w K mg base x (k + 1) ps sp :=
  ⟨f, fd, F.ok S len hbody, hm, F.kp, hb⟩
theorem cal_imp {sp' : Sp} (C : Cal P w K mg base x k ps sp) (h : ∀ vs H Q E, sp' vs H Q E → sp vs H Q E) : Cal P w K mg base x k ps sp' := by
  obtain ⟨f, fd, F, r⟩ := C.ex
  exact ⟨f, fd, F.imp h, r⟩
end
section
variable {X : Cx} {x : Str} {k k' : Nat} {ps : List Str} {sp : Sp} {e : Expr} {es : List Expr} {t : TA} {E : XK} {p pos : Pos}
theorem pe_callC (C : Cal X.prog X.w X.K X.mg X.base x k ps sp) (hr : Room k' X.A) (hg : Gl X x) (hx : Passes (L2.CX X.prog X.w) X E) (ha : PA X (e :: es) t) (hk : k ≤ k' := by decide)
    (hdb : (x == ("__debug__" : Str)) = false := by decide) (he : starEach (e :: es) X.env = (false, eval e X.env) :: starEach es X.env := by rfl) (hpl : (backTo pos (starEach es X.env)).any (·.1) = false := by rfl) :
    PE X (.Call (.Name x p) (e :: es) [] pos) (tCall sp [] E t) := by
  obtain ⟨f, fd, F, hm, hk', hb⟩ := C.ex
  exact pe_call F (hr.mono hk) hg hm hk' hb .nil hx ha hdb he hpl
end
/-! ### loops -/
section
variable {K : PySem.W.Frag} {H : Hp} {σ : L2.St} {D : Ends} {M : Addr → Prop} {ta : TA} {tl : TE} {tu : TS} {g : TG}
theorem s_forR {j : Nat} {n : Int} (hM : ∀ b, M b → H b ≠ none) (h : EvDA K ta σ (hid M H) [.int n]) (hn : 0 ≤ n ∧ n ≤ 100000) (Pv : Nat → L2.St → Hp → Prop) (h0 : ∀ H1, Ex H H1 → Pv 0 σ H1)
    (hs : ∀ (i : Nat) σ' H', (i : Int) < n → Pv i σ' H' → tu { D with nx := Pv (i + 1), ct := Pv (i + 1), bk := D.nx } (σ'.set j (some (.int (i : Int)))) H') (hd : ∀ σ' H', Pv n.toNat σ' H' → D.nx σ' H') : tFor (iRng1 ta) (gName j) tu D σ H :=
  h M H (.self hM) _ fun vs H1 e r => by
    obtain ⟨v, rfl, r1⟩ := dpa1 r
    cases r1
    refine ⟨n, rfl, by omega, by omega, for_range (lo := 0) (n := n.toNat) Pv (h0 H1 e) (fun i σ' H' hi p => ?_) hd⟩
    have e0 : (0 : Int) + (i : Int) = (i : Int) := Int.zero_add _
    show tu { D with nx := Pv (i + 1), ct := Pv (i + 1), bk := D.nx } (σ'.set j (some (.int ((0 : Int) + (i : Int))))) H'
    rw [e0]
    exact hs i σ' H' (by omega) p
/-- over a list or a tuple that stays; H1: where the loop starts -/
theorem s_forS {ds : List PyData} {src : PyData} (hM : ∀ b, M b → H b ≠ none) (h : EvD K tl σ (hid M H) src) (hsrc : src = .list ds ∨ src = .tuple ds) (Pv : Hp → Nat → L2.St → Hp → Prop) (h0 : ∀ H1, Ex H H1 → Pv H1 0 σ H1) (hE : ∀ H1 i σ' H', Pv H1 i σ' H' → Ex (hid M H1) (hid M H'))
    (hs : ∀ H1 (i : Nat) (d : PyData) (x : V) σ' H', ds[i]? = some d → Dp K (hid M H') x d → Pv H1 i σ' H' → g x σ' H' fun σ2 H2 => tu { D with nx := Pv H1 (i + 1), ct := Pv H1 (i + 1), bk := D.nx } σ2 H2) (hd : ∀ H1 σ' H', Ex H H1 → Pv H1 ds.length σ' H' → D.nx σ' H') : tFor (iSeq K tl) g tu D σ H :=
  h M H (.self hM) _ fun v H1 e r => by
    rcases hsrc with z | z <;> subst z
    · cases r with
      | lst hq ha =>
        refine ⟨_, rfl, .inl ⟨⟨_, hsl hq⟩, for_list (Pv H1) (h0 H1 e) (fun i σ' H' _ p => hsl (ex_l (hE H1 i σ' H' p) hq)) (fun i x σ' H' hi p => ?_) (fun σ' H' p => hd H1 σ' H' e (by rw [← dpa_len ha]; exact p))⟩⟩
        obtain ⟨d, hd', rd⟩ := dpa_getV ha hi
        exact hs H1 i d x σ' H' hd' (Dpx (hE H1 i σ' H' p) rd) p
    · cases r with
      | tup hq ha =>
        refine ⟨_, rfl, .inr ⟨⟨_, hst hq⟩, for_tup (Pv H1) (h0 H1 e) (fun i σ' H' _ p => hst (ex_t (hE H1 i σ' H' p) hq)) (fun i x σ' H' hi p => ?_) (fun σ' H' p => hd H1 σ' H' e (by rw [← dpa_len ha]; exact p))⟩⟩
        obtain ⟨d, hd', rd⟩ := dpa_getV ha hi
        exact hs H1 i d x σ' H' hd' (Dpx (hE H1 i σ' H' p) rd) p
theorem s_seq {t u : TS} (h : t { D with nx := u D } σ H) : tSeq t u D σ H := h
end
end DL
end
section
set_option Elab.async false
set_option linter.all false
set_option maxRecDepth 100000
set_option maxHeartbeats 2000000
/-! Defs by data: the frame of a proof of one def. -/
namespace DL
open PySem PySem.Spec PyProof.Rows L2 Evl
section
variable {P : Program} {w : World} {K : PySem.W.Frag} {mg : Str → Option Value} {base : Heap} {x : Str} {st : Stmt} {f : Addr} {fd : FuncData} {N ps : List Str} {k : Nat} {sp : Sp} {R : List PyData → PyData → Prop}
/-- a def that answers by data -/
theorem cal_D (F : FnP K x st f fd) (hm : mg x = some (.ref f)) (S : FnScope N ps (defScope st)) (hb : Binds K fd ps []) (len : ∀ ds d, R ds d → ds.length = ps.length)
    (hbody : ∀ (cdv : Value) (A : Around) (outer : List Env) (s : Shared) (H : Hp) (vs : List V) (Q : VK) (E : XK), Room k (A.deeper (envOfC x (defScope st) s.heap.objs.size f cdv)) →
      ∃ t, PSs (cxOf (L2.CX P w) P w K mg base N x (defScope st) f cdv A outer s H E) (defBody st) t ∧
        ∀ M ds d, (∀ b, M b → H b ≠ none) → DpAll K (hid M H) vs ds → R ds d → (∀ v H', Ex H H' → Dp K (hid M H') v d → Q v H') → t { nx := fun _ H' => Q .non H', rt := Q } (start N vs) H) : Cal P w K mg base x (k + 1) ps (spG K R) := by
  refine cal_mk F hm S hb (fun vs H Q E h => ?_) fun cdv A outer s H vs Q E hr h => ?_
  · obtain ⟨M, ds, d, _, r, hR, _⟩ := h
    rw [dpa_len r]
    exact len ds d hR
  · obtain ⟨M, ds, d, hM, r, hR, q⟩ := h
    obtain ⟨t, hp, ht⟩ := hbody cdv A outer s H vs Q E hr
    exact ⟨t, hp, ht M ds d hM r hR q⟩
end
end DL
end
section
set_option Elab.async false
set_option linter.all false
set_option maxRecDepth 100000
set_option maxHeartbeats 2000000
/-! Statements with an anchor: what was told stays told; dice and lists that change are hidden (M) and told by J. -/
namespace DL
open PySem PySem.Spec PyProof.Rows L2 Evl
section
variable {K : PySem.W.Frag} {G G1 H H0 H1 H2 H' : Hp} {v x y : V} {d e f : PyData} {vs : List V} {ds es : List PyData} {σ : L2.St} {te ta tb tl : TE} {M : Addr → Prop} {J : Hp → Prop} {D : Ends} {tu tw : TS} {t : TT} {b : Bool}
/-- J lasts -/
def Up (J : Hp → Prop) : Prop := ∀ H H', Ex H H' → J H → J H'
theorem up_ex : Up (Ex H0) := fun _ _ e j => j.trans e
/-- at the heap H: all that stands in the anchor G stands off M, and J holds -/
structure Ax (M : Addr → Prop) (J : Hp → Prop) (G H : Hp) : Prop where
  x : Ext M G H
  j : J H
  u : Up J
theorem Ax.start (hM : ∀ b, M b → H b ≠ none) : Ax M (Ex H) (hid M H) H := ⟨.self hM, Ex.refl H, up_ex⟩
theorem Ax.startJ (hM : ∀ b, M b → H b ≠ none) (u : Up J) (j : J H) : Ax M J (hid M H) H := ⟨.self hM, j, u⟩
theorem Ax.step (a : Ax M J G H) (e : Ex H H1) : Ax M J G H1 := ⟨a.x.step e, a.u _ _ e a.j, a.u⟩
theorem Ax.here (a : Ax M J G H) : Ax M J (hid M H) H := ⟨.self a.x.tk, a.j, a.u⟩
theorem x_ret (a : Ax M J G H) (h : EvD K te σ G d) (q : ∀ v H', J H' → Dp K (hid M H') v d → D.rt v H') : tRet te D σ H := h M H a.x _ fun v H1 e r => q v H1 (a.u _ _ e a.j) r
theorem x_asg (a : Ax M J G H) {i : Nat} (h : EvD K te σ G d) (k : ∀ v H1, Ax M J (hid M H1) H1 → Ex G (hid M H1) → Dp K (hid M H1) v d → D.nx (σ.set i (some v)) H1) : tAsg te (gName i) D σ H :=
  h M H a.x _ fun v H1 e r => k v H1 (a.step e).here (a.step e).x.ex r
theorem x_drop (a : Ax M J G H) (h : EvD K te σ G d) (k : ∀ H1, Ax M J G H1 → D.nx σ H1) : tDrop te D σ H := h M H a.x _ fun v H1 e _ => k H1 (a.step e)
theorem x_if (a : Ax M J G H) (h : EvB K t σ G b) (h1 : b = true → ∀ H1, Ax M J G H1 → tu D σ H1) (h2 : b = false → ∀ H1, Ax M J G H1 → tw D σ H1) : tIfS t tu tw D σ H := h M H a.x _ fun H1 e => by
  cases b with
  | true => exact h1 rfl H1 (a.step e)
  | false => exact h2 rfl H1 (a.step e)
/-- Pv: what the turns keep, beside J; a turn's heap is its own anchor -/
theorem x_forR {j : Nat} {n : Int} (a : Ax M J G H) {ta : TA} (h : EvDA K ta σ G [.int n]) (hn : 0 ≤ n ∧ n ≤ 100000) (Pv : Nat → L2.St → Hp → Prop) (h0 : ∀ H1, Ax M J G H1 → Pv 0 σ H1)
    (hs : ∀ (i : Nat) σ' H', (i : Int) < n → Ax M J G H' → Pv i σ' H' → tu { D with nx := fun σ2 H2 => Ax M J G H2 ∧ Pv (i + 1) σ2 H2, ct := fun σ2 H2 => Ax M J G H2 ∧ Pv (i + 1) σ2 H2, bk := D.nx } (σ'.set j (some (.int (i : Int)))) H')
    (hd : ∀ σ' H', Ax M J G H' → Pv n.toNat σ' H' → D.nx σ' H') : tFor (iRng1 ta) (gName j) tu D σ H :=
  h M H a.x _ fun vs H1 e r => by
    obtain ⟨v, rfl, r1⟩ := dpa1 r
    cases r1
    refine ⟨n, rfl, by omega, by omega, for_range (lo := 0) (n := n.toNat) (fun i σ' H' => Ax M J G H' ∧ Pv i σ' H') ⟨a.step e, h0 H1 (a.step e)⟩ (fun i σ' H' hi p => ?_) fun σ' H' p => hd σ' H' p.1 p.2⟩
    have e0 : (0 : Int) + (i : Int) = (i : Int) := Int.zero_add _
    show tu { D with nx := fun σ2 H2 => Ax M J G H2 ∧ Pv (i + 1) σ2 H2, ct := fun σ2 H2 => Ax M J G H2 ∧ Pv (i + 1) σ2 H2, bk := D.nx } (σ'.set j (some (.int ((0 : Int) + (i : Int))))) H'
    rw [e0]
    exact hs i σ' H' (by omega) p.1 p.2
/-- over a list or a tuple; G1: the anchor behind the list's reading -/
theorem x_forS {g : TG} {src : PyData} (a : Ax M J G H) (h : EvD K tl σ G src) (hsrc : src = .list ds ∨ src = .tuple ds) (Pv : Hp → Nat → L2.St → Hp → Prop) (h0 : ∀ G1 H1, Ex G G1 → Ax M J G1 H1 → Pv G1 0 σ H1)
    (hs : ∀ G1 (i : Nat) (d : PyData) (x : V) σ' H', ds[i]? = some d → Ex G G1 → Ax M J G1 H' → Dp K G1 x d → Pv G1 i σ' H' → g x σ' H' fun σ2 H2 => tu { D with nx := fun σ3 H3 => Ax M J G1 H3 ∧ Pv G1 (i + 1) σ3 H3, ct := fun σ3 H3 => Ax M J G1 H3 ∧ Pv G1 (i + 1) σ3 H3, bk := D.nx } σ2 H2)
    (hd : ∀ G1 σ' H', Ex G G1 → Ax M J G1 H' → Pv G1 ds.length σ' H' → D.nx σ' H') : tFor (iSeq K tl) g tu D σ H :=
  h M H a.x _ fun v H1 e r => by
    have a1 := (a.step e).here
    have eG := (a.step e).x.ex
    rcases hsrc with z | z <;> subst z
    · cases r with
      | lst hq ha =>
        refine ⟨_, rfl, .inl ⟨⟨_, hsl hq⟩, for_list (fun i σ' H' => Ax M J (hid M H1) H' ∧ Pv (hid M H1) i σ' H') ⟨a1, h0 _ H1 eG a1⟩ (fun i σ' H' _ p => hsl (ex_l p.1.x.ex hq)) (fun i x σ' H' hi p => ?_) (fun σ' H' p => hd _ σ' H' eG p.1 (by rw [← dpa_len ha]; exact p.2))⟩⟩
        obtain ⟨d, hd', rd⟩ := dpa_getV ha hi
        exact hs _ i d x σ' H' hd' eG p.1 rd p.2
    · cases r with
      | tup hq ha =>
        refine ⟨_, rfl, .inr ⟨⟨_, hst hq⟩, for_tup (fun i σ' H' => Ax M J (hid M H1) H' ∧ Pv (hid M H1) i σ' H') ⟨a1, h0 _ H1 eG a1⟩ (fun i σ' H' _ p => hst (ex_t p.1.x.ex hq)) (fun i x σ' H' hi p => ?_) (fun σ' H' p => hd _ σ' H' eG p.1 (by rw [← dpa_len ha]; exact p.2))⟩⟩
        obtain ⟨d, hd', rd⟩ := dpa_getV ha hi
        exact hs _ i d x σ' H' hd' eG p.1 rd p.2
/-! ### .. one statement, then the rest -/
section
variable {u : TS}
theorem y_if0 (a : Ax M J G H) (h : EvB K t σ G b) (h1 : b = true → ∀ H1, Ax M J G H1 → tu { D with nx := u D } σ H1) (h2 : b = false → ∀ H1, Ax M J G H1 → u D σ H1) : tSeq (tIfS t tu tNext) u D σ H :=
  x_if (D := { D with nx := u D }) a h h1 h2
theorem y_if (a : Ax M J G H) (h : EvB K t σ G b) (h1 : b = true → ∀ H1, Ax M J G H1 → tu { D with nx := u D } σ H1) (h2 : b = false → ∀ H1, Ax M J G H1 → tw { D with nx := u D } σ H1) : tSeq (tIfS t tu tw) u D σ H :=
  x_if (D := { D with nx := u D }) a h h1 h2
/-- the last statement of a suite -/
theorem z_if0 (a : Ax M J G H) (h : EvB K t σ G b) (h1 : b = true → ∀ H1, Ax M J G H1 → tu D σ H1) (h2 : b = false → ∀ H1, Ax M J G H1 → D.nx σ H1) : tIfS t tu tNext D σ H := x_if a h h1 h2
theorem y_asg {i : Nat} (a : Ax M J G H) (h : EvD K te σ G d) (k : ∀ v H1, Ax M J (hid M H1) H1 → Ex G (hid M H1) → Dp K (hid M H1) v d → u D (σ.set i (some v)) H1) : tSeq (tAsg te (gName i)) u D σ H :=
  x_asg (D := { D with nx := u D }) a h k
/-- .. to an int, a bool, a text: the anchor stays -/
theorem y_asgI {i : Nat} {n : Int} (a : Ax M J G H) (h : EvD K te σ G (.int n)) (k : ∀ H1, Ax M J G H1 → u D (σ.set i (some (.int n))) H1) : tSeq (tAsg te (gName i)) u D σ H := h M H a.x _ fun v H1 e r => by
  cases r
  exact k H1 (a.step e)
theorem y_asgB {i : Nat} {n : Bool} (a : Ax M J G H) (h : EvD K te σ G (.bool n)) (k : ∀ H1, Ax M J G H1 → u D (σ.set i (some (.bl n))) H1) : tSeq (tAsg te (gName i)) u D σ H := h M H a.x _ fun v H1 e r => by
  cases r
  exact k H1 (a.step e)
theorem y_asgS {i : Nat} {n : Str} (a : Ax M J G H) (h : EvD K te σ G (.str n)) (k : ∀ H1, Ax M J G H1 → u D (σ.set i (some (.str n))) H1) : tSeq (tAsg te (gName i)) u D σ H := h M H a.x _ fun v H1 e r => by
  cases r
  exact k H1 (a.step e)
theorem y_drop (a : Ax M J G H) (h : EvD K te σ G d) (k : ∀ H1, Ax M J G H1 → u D σ H1) : tSeq (tDrop te) u D σ H := x_drop (D := { D with nx := u D }) a h k
theorem y_forR {j : Nat} {n : Int} (a : Ax M J G H) {ta : TA} (h : EvDA K ta σ G [.int n]) (hn : 0 ≤ n ∧ n ≤ 100000) (Pv : Nat → L2.St → Hp → Prop) (h0 : ∀ H1, Ax M J G H1 → Pv 0 σ H1)
    (hs : ∀ (i : Nat) σ' H', (i : Int) < n → Ax M J G H' → Pv i σ' H' → tu { nx := fun σ2 H2 => Ax M J G H2 ∧ Pv (i + 1) σ2 H2, rt := D.rt, ct := fun σ2 H2 => Ax M J G H2 ∧ Pv (i + 1) σ2 H2, bk := u D } (σ'.set j (some (.int (i : Int)))) H')
    (hd : ∀ σ' H', Ax M J G H' → Pv n.toNat σ' H' → u D σ' H') : tSeq (tFor (iRng1 ta) (gName j) tu) u D σ H := x_forR (D := { D with nx := u D }) a h hn Pv h0 hs hd
theorem y_forS {g : TG} {src : PyData} (a : Ax M J G H) (h : EvD K tl σ G src) (hsrc : src = .list ds ∨ src = .tuple ds) (Pv : Hp → Nat → L2.St → Hp → Prop) (h0 : ∀ G1 H1, Ex G G1 → Ax M J G1 H1 → Pv G1 0 σ H1)
    (hs : ∀ G1 (i : Nat) (d : PyData) (x : V) σ' H', ds[i]? = some d → Ex G G1 → Ax M J G1 H' → Dp K G1 x d → Pv G1 i σ' H' → g x σ' H' fun σ2 H2 => tu { nx := fun σ3 H3 => Ax M J G1 H3 ∧ Pv G1 (i + 1) σ3 H3, rt := D.rt, ct := fun σ3 H3 => Ax M J G1 H3 ∧ Pv G1 (i + 1) σ3 H3, bk := u D } σ2 H2)
    (hd : ∀ G1 σ' H', Ex G G1 → Ax M J G1 H' → Pv G1 ds.length σ' H' → u D σ' H') : tSeq (tFor (iSeq K tl) g tu) u D σ H := x_forS (D := { D with nx := u D }) a h hsrc Pv h0 hs hd
end
/-! ### readings with an effect on what is hidden -/
/-- te answers some data of R; M may change, J stays -/
def EvN (K : PySem.W.Frag) (M : Addr → Prop) (J : Hp → Prop) (te : TE) (σ : L2.St) (G : Hp) (R : PyData → Prop) : Prop := ∀ H1, Ax M J G H1 → ∀ Q : VK, (∀ v H2 d, Ex (hid M H1) (hid M H2) → Ax M J G H2 → R d → Dp K (hid M H2) v d → Q v H2) → te σ H1 Q
def EvNA (K : PySem.W.Frag) (M : Addr → Prop) (J : Hp → Prop) (ta : TA) (σ : L2.St) (G : Hp) (R : List PyData → Prop) : Prop := ∀ H1, Ax M J G H1 → ∀ Q : List V → Hp → Prop, (∀ vs H2 ds, Ex (hid M H1) (hid M H2) → Ax M J G H2 → R ds → DpAll K (hid M H2) vs ds → Q vs H2) → ta σ H1 Q
def EvNB (M : Addr → Prop) (J : Hp → Prop) (tt : TT) (σ : L2.St) (G : Hp) (R : Bool → Prop) : Prop := ∀ H1, Ax M J G H1 → ∀ Q : Bool → Hp → Prop, (∀ b H2, Ex (hid M H1) (hid M H2) → Ax M J G H2 → R b → Q b H2) → tt σ H1 Q
variable {R U1 U2 : PyData → Prop} {RA : List PyData → Prop}
theorem en_D (h : EvD K te σ G d) : EvN K M J te σ G (fun z => z = d) := fun H1 a Q q => h M H1 a.x Q fun v H2 e r => q v H2 d (hid_ex e) (a.step e) rfl r
theorem en_imp (h : EvN K M J te σ G U1) (hi : ∀ d, U1 d → U2 d) : EvN K M J te σ G U2 := fun H1 a Q q => h H1 a Q fun v H2 d e a2 r => q v H2 d e a2 (hi d r)
theorem en_op {r : R2} (ha : EvN K M J ta σ G U1) (hb : EvN K M J tb σ G U2) (hr : ∀ d e, U1 d → U2 e → ∃ f, RD K r G d e f ∧ R f) : EvN K M J (tOp r ta tb) σ G R := fun H1 a Q q =>
  ha H1 a _ fun x H2 d e2 a2 h1 rx => hb H2 a2 _ fun y H3 e e3 a3 h2 ry => by
    obtain ⟨f, hf, hR⟩ := hr d e h1 h2
    exact hf M x y H3 a3.x (Dpx e3 rx) ry Q fun v H4 e4 rv => q v H4 f ((e2.trans e3).trans (hid_ex e4)) (a3.step e4) hR rv
theorem ena_nil : EvNA K M J tNil σ G (fun z => z = []) := fun H1 a Q q => q [] H1 [] (Ex.refl _) a rfl .nil
theorem ena_cons {tr : TA} (h : EvN K M J te σ G U1) (hr : EvNA K M J tr σ G RA) : EvNA K M J (tCons te tr) σ G (fun z => ∃ d ds, z = d :: ds ∧ U1 d ∧ RA ds) := fun H1 a Q q =>
  h H1 a _ fun v H2 d e2 a2 h1 r => hr H2 a2 _ fun vs H3 ds e3 a3 h2 rs => q _ H3 _ (e2.trans e3) a3 ⟨d, ds, rfl, h1, h2⟩ (.cons (Dpx e3 r) rs)
theorem en_tup {ta : TA} (h : EvNA K M J ta σ G RA) (hl : ∀ ds, RA ds → ds.length ≤ 100000) : EvN K M J (tTup ta) σ G (fun z => ∃ ds, z = .tuple ds ∧ RA ds) := fun H1 a Q q =>
  h H1 a _ fun vs H2 ds e2 a2 h1 r => ⟨sz_of (by rw [dpa_len r]; exact hl ds h1), fun p hp => q _ _ _ (e2.trans (hid_ex (Ex.new hp))) (a2.step (Ex.new hp)) ⟨ds, rfl, h1⟩ (new_tup hp (a2.x.fresh hp) r)⟩
theorem enb_cmp {t : TE} (h : EvN K M J t σ G R) {RB : Bool → Prop} (hb : ∀ d, R d → ∃ b, d = .bool b ∧ RB b) : EvNB M J (tB t) σ G RB := fun H1 a Q q => h H1 a _ fun v H2 d e a2 hR r => by
  obtain ⟨b, rfl, hb⟩ := hb d hR
  cases r
  exact ⟨b, rfl, q b H2 e a2 hb⟩
theorem en_if {RB : Bool → Prop} (h : EvNB M J t σ G RB) (h1 : RB true → EvN K M J ta σ G R) (h2 : RB false → EvN K M J tb σ G R) : EvN K M J (tIf t ta tb) σ G R := fun H1 a Q q => h H1 a _ fun b H2 e a2 hb => by
  cases b with
  | true => exact h1 hb H2 a2 Q fun v H3 d e3 => q v H3 d (e.trans e3)
  | false => exact h2 hb H2 a2 Q fun v H3 d e3 => q v H3 d (e.trans e3)
theorem n_ret (a : Ax M J G H) (h : EvN K M J te σ G R) (q : ∀ v H' d, Ex (hid M H) (hid M H') → J H' → R d → Dp K (hid M H') v d → D.rt v H') : tRet te D σ H := h H a _ fun v H1 d e a1 hR r => q v H1 d e a1.j hR r
theorem n_asg (a : Ax M J G H) {i : Nat} (h : EvN K M J te σ G R) (k : ∀ v H1 d, Ax M J (hid M H1) H1 → Ex G (hid M H1) → R d → Dp K (hid M H1) v d → D.nx (σ.set i (some v)) H1) : tAsg te (gName i) D σ H :=
  h H a _ fun v H1 d e a1 hR r => k v H1 d a1.here a1.x.ex hR r
/-- a promise with an effect: M' is hidden by the callee, J its own -/
def spN (K : PySem.W.Frag) (C : (Addr → Prop) → (Hp → Prop) → List V → List PyData → Prop) (R : List PyData → PyData → Prop) : Sp := fun vs H Q _ => ∃ M J ds, Ax M J (hid M H) H ∧ DpAll K (hid M H) vs ds ∧ C M J vs ds ∧ ∀ v H' d, Ex (hid M H) (hid M H') → Ax M J (hid M H) H' → R ds d → Dp K (hid M H') v d → Q v H'
end
/-- .. with K by name (an element of a comprehension may not hang on the context) -/
theorem pe_listZipK {X : Cx} {K : PySem.W.Frag} (hK : X.K = K) {e e2 : Expr} {ta : TA} {p1 p2 pos2 pos : Pos} (hc : X.calm = true) (hgl : Gl X "list") (hml : X.mg "list" = none) (hg : Gl X "zip") (hm : X.mg "zip" = none) (ha : PA X [e, e2] ta)
    (hs : starEach [e, e2] X.env = (false, eval e X.env) :: starEach [e2] X.env := by rfl) (hpl : (backTo pos2 (starEach [e2] X.env)).any (·.1) = false := by rfl)
    (na : starEach [.Call (.Name "zip" p2) [e, e2] [] pos2] X.env = (false, eval (.Call (.Name "zip" p2) [e, e2] [] pos2) X.env) :: starEach [] X.env := by rfl) :
    PE X (.Call (.Name "list" p1) [.Call (.Name "zip" p2) [e, e2] [] pos2] [] pos) (tListZip K ta) := by
  subst hK
  exact pe_listZip hc hgl hml hg hm ha hs hpl na
theorem pi_seqK {X : Cx} {K : PySem.W.Frag} (hK : X.K = K) {tg l : Expr} {tl : TE} (hl : PE X l tl) : PI X tg l (iSeq K tl) := by
  subst hK
  exact pi_seq hl
theorem pg_tupK {X : Cx} {K : PySem.W.Frag} (hK : X.K = K) {es : List Expr} {k : Nat} {t : TGs} {n : Nat} {pos : Pos} (hc : X.calm = true) (h : PGs X es t) (hn : (assignEach es X.env).length = n := by rfl) (hst : (assignEach es X.env).findIdx? (·.1) = none := by rfl) :
    PG X (.Tuple es k pos) (gTup K n t) := by
  subst hK
  exact pg_tup hc h hn hst
theorem pa_starK {X : Cx} {K : PySem.W.Frag} (hK : X.K = K) {e : Expr} {es : List Expr} {p : Pos} {te : TE} {t : TA} (he : PE X e te) (hr : PA X es t) (hs : starEach (.Starred e p :: es) X.env = (true, eval e X.env) :: starEach es X.env := by rfl) : PA X (.Starred e p :: es) (StX.tStar K te t) := by
  subst hK
  exact StX.pa_star he hr hs
end DL
end
section
set_option Elab.async false
set_option linter.all false
set_option maxRecDepth 100000
set_option maxHeartbeats 2000000
/-! Plain facts of data: shapes, equality, places in lists. -/
namespace DL
open PySem PySem.Spec PyProof.Rows L2 Evl
/-! ### shapes -/
def Sh (n : Nat) (d : PyData) : Prop := d.canLay0 = true ∧ d.depth ≤ n
theorem canAll : ∀ {ds : List PyData}, (∀ d ∈ ds, d.canLay0 = true) → PyData.canLayAll0 ds = true
  | [], _ => rfl
  | d :: ds, h => by
    have h1 := h d (List.mem_cons_self ..)
    have h2 := canAll (ds := ds) fun e he => h e (List.mem_cons_of_mem _ he)
    simp [PyData.canLayAll0, h1, h2]
theorem depAll {n : Nat} : ∀ {ds : List PyData}, (∀ d ∈ ds, d.depth ≤ n) → PyData.depthAll ds ≤ n
  | [], _ => Nat.zero_le _
  | d :: ds, h => by
    have h1 := h d (List.mem_cons_self ..)
    have h2 := depAll (ds := ds) fun e he => h e (List.mem_cons_of_mem _ he)
    show max d.depth (PyData.depthAll ds) ≤ n
    omega
theorem sh_int {n : Nat} {i : Int} : Sh n (.int i) := ⟨rfl, Nat.zero_le _⟩
theorem sh_str {n : Nat} {i : Str} (h : (PyData.str i).canLay0 = true) : Sh n (.str i) := ⟨h, Nat.zero_le _⟩
theorem sh_bl {n : Nat} {i : Bool} : Sh n (.bool i) := ⟨rfl, Nat.zero_le _⟩
theorem sh_non {n : Nat} : Sh n .none := ⟨rfl, Nat.zero_le _⟩
theorem sh_tup {n : Nat} {ds : List PyData} (h : ∀ d ∈ ds, Sh n d) : Sh (n + 1) (.tuple ds) := ⟨by
  have e := canAll fun d hd => (h d hd).1
  simpa [PyData.canLay0] using e, Nat.succ_le_succ (depAll fun d hd => (h d hd).2)⟩
theorem sh_lst {n : Nat} {ds : List PyData} (h : ∀ d ∈ ds, Sh n d) : Sh (n + 1) (.list ds) := ⟨by
  have e := canAll fun d hd => (h d hd).1
  simpa [PyData.canLay0] using e, Nat.succ_le_succ (depAll fun d hd => (h d hd).2)⟩
theorem sh_nil {n : Nat} : ∀ d ∈ ([] : List PyData), Sh n d := fun _ h => nomatch h
theorem sh_cons {n : Nat} {d : PyData} {ds : List PyData} (h : Sh n d) (hs : ∀ d ∈ ds, Sh n d) : ∀ e ∈ d :: ds, Sh n e := fun e he => by
  rcases List.mem_cons.mp he with rfl | he
  · exact h
  · exact hs e he
theorem sh_app {n : Nat} {ds es : List PyData} (h : ∀ d ∈ ds, Sh n d) (hs : ∀ d ∈ es, Sh n d) : ∀ e ∈ ds ++ es, Sh n e := fun e he => by
  rcases List.mem_append.mp he with he | he
  · exact h e he
  · exact hs e he
theorem sh_map {n : Nat} {α : Type} {f : α → PyData} {xs : List α} (h : ∀ a, Sh n (f a)) : ∀ d ∈ xs.map f, Sh n d := fun d hd => by
  obtain ⟨a, _, rfl⟩ := List.mem_map.mp hd
  exact h a
theorem Sh.ok {d : PyData} (h : Sh 60 d) : SeqAt.shaped d = true := by
  unfold SeqAt.shaped
  rw [h.1, decide_eq_true (Nat.le_trans h.2 (by decide))]
  rfl
theorem Sh.mono {m n : Nat} {d : PyData} (h : Sh m d) (e : m ≤ n) : Sh n d := ⟨h.1, Nat.le_trans h.2 e⟩
/-! ### equality -/
theorem eqv_int {i j : Int} : PyData.eqv (.int i) (.int j) = decide (i = j) := by
  simp only [PyData.eqv]
  exact Bool.eq_iff_iff.mpr (by simp)
theorem eqv_bool {i j : Bool} : PyData.eqv (.bool i) (.bool j) = decide (i = j) := by
  simp only [PyData.eqv]
  exact Bool.eq_iff_iff.mpr (by simp)
theorem eqv_str {i j : Str} : PyData.eqv (.str i) (.str j) = decide (i = j) := by
  simp only [PyData.eqv]
  exact Bool.eq_iff_iff.mpr (by simp)
theorem eqv_tup {xs ys : List PyData} : PyData.eqv (.tuple xs) (.tuple ys) = PyData.eqvAll xs ys := by simp only [PyData.eqv]
theorem eqv_lst {xs ys : List PyData} : PyData.eqv (.list xs) (.list ys) = PyData.eqvAll xs ys := by simp only [PyData.eqv]
theorem eqva_cons {x y : PyData} {xs ys : List PyData} : PyData.eqvAll (x :: xs) (y :: ys) = (PyData.eqv x y && PyData.eqvAll xs ys) := by simp only [PyData.eqvAll]
theorem eqva_nil : PyData.eqvAll [] [] = true := by simp only [PyData.eqvAll]
theorem eqva_map {α : Type} [DecidableEq α] {f : α → PyData} (h : ∀ a b, PyData.eqv (f a) (f b) = decide (a = b)) : ∀ xs ys : List α, PyData.eqvAll (xs.map f) (ys.map f) = decide (xs = ys)
  | [], [] => by simp [PyData.eqvAll]
  | [], y :: ys => by simp [PyData.eqvAll]
  | x :: xs, [] => by simp [PyData.eqvAll]
  | x :: xs, y :: ys => by
    rw [List.map_cons, List.map_cons, eqva_cons, h, eqva_map h xs ys]
    simp
/-! ### places -/
theorem atI_zero {α : Type} {d : α} {ds : List α} : atI (d :: ds) 0 = some d := by simp [atI, ixN]
theorem atI_nat {α : Type} {ds : List α} {i : Nat} (h : i < ds.length) : atI ds (i : Int) = ds[i]? := by
  unfold atI ixN
  have h1 : ((i : Int) < (ds.length : Int)) := by omega
  have h0 : ¬ ((i : Int) < 0) := by omega
  simp [h1, h0] <;> omega
theorem atI_last {α : Type} {ds : List α} {d : α} : atI (ds ++ [d]) (-1) = some d := by
  unfold atI ixN
  rw [if_neg (by decide), if_pos (by simp only [List.length_append, List.length_cons, List.length_nil]; omega)]
  have e : (-1 + ((ds ++ [d]).length : Int)).toNat = ds.length := by simp; omega
  rw [e]
  simp
theorem all_take {α : Type} {p : α → Bool} {ds : List α} {i : Nat} {d : α} (hi : ds[i]? = some d) (h : (ds.take i).all p = true) (hd : p d = true) : (ds.take (i + 1)).all p = true := by
  rw [List.take_add_one, hi, List.all_append, h]
  simp [hd]
theorem cut_from {ds : List PyData} {i : Nat} : cutD ds (some (i : Int)) none = ds.drop i := by
  unfold cutD
  rw [HT.sIx_nat, HT.sIx_none]
  by_cases h : i ≤ ds.length
  · rw [Nat.min_eq_left h, List.take_of_length_le (by rw [List.length_drop]; omega)]
  · rw [Nat.min_eq_right (by omega), List.drop_eq_nil_of_le (Nat.le_refl _), List.drop_eq_nil_of_le (by omega)]
    simp
theorem cut_to {ds : List PyData} {i : Nat} : cutD ds none (some (i : Int)) = ds.take i := by
  unfold cutD
  rw [HT.sIx_nat, HT.sIx_none, List.drop_zero, Nat.sub_zero]
  by_cases h : i ≤ ds.length
  · rw [Nat.min_eq_left h]
  · rw [Nat.min_eq_right (by omega), List.take_of_length_le (Nat.le_refl _), List.take_of_length_le (by omega)]
theorem cut_at {ds : List PyData} {i : Nat} : cutD ds (some (i : Int)) (some ((i : Int) + 1)) = (ds.drop i).take 1 := by
  unfold cutD
  have e : ((i : Int) + 1) = ((i + 1 : Nat) : Int) := by omega
  rw [e, HT.sIx_nat, HT.sIx_nat]
  by_cases h : i < ds.length
  · rw [Nat.min_eq_left (by omega), Nat.min_eq_left (by omega)]
    congr 1
    omega
  · rw [Nat.min_eq_right (by omega), Nat.min_eq_right (by omega), List.drop_eq_nil_of_le (by omega : ds.length ≤ i), List.drop_eq_nil_of_le (Nat.le_refl _)]
    simp
theorem eb_yes {K : PySem.W.Frag} {σ : L2.St} {H : Hp} : EvB K tYes σ H true := fun M H1 e Q q => q H1 (Ex.refl _)
end DL
end
section
set_option Elab.async false
set_option linter.all false
set_option maxRecDepth 100000
set_option maxHeartbeats 2000000
/-! Exceptions of the text whose __init__ says super().__init__(v); self.f = v, over any built-in base. -/
namespace SupX
open PySem PySem.W PySem.Calls PyProof.Rows Builtin Builtin.ObjectAttr
abbrev supS (fld : Str) : Scope := { kind := .function, names := [("self", .local), (fld, .local), ("__class__", .free), ("super", .globalImplicit)], isGenerator := false, isCoroutine := false, more := [] }
/-- what the written part says of the class x, at C, and of its __init__, at fI -/
structure SupF (prog : Program) (K : Frag) (mg : Str → Option Value) (x fld : Str) (B newId initId : String) (bmB : List Value) (C fI : Addr) : Prop where
  FB : ExcBaseFacts B newId initId bmB
  KF : KxsFacts B initId
  SF : StoreFacts B bmB "object.__setattr__" "object"
  gC : mg x = some (.ref C)
  q : excInitIn K C bmB newId = true
  over : excOver K C bmB = true
  sa : findIn K (.ref C) "__setattr__" = some (some (.builtin "object.__setattr__"))
  tk : takerIn K C fld = some none
  hd : hasDictIn K C = true
  iC : findIn K (.ref C) "__init__" = some (some (.ref fI))
  tC : typeIn K (.ref fI) = some (.type "function")
  kC : keepIn K (.ref C) = true
  exC : subIn K (.ref C) (.type "BaseException") = some true
  exB : subIn K (.ref C) (.type B) = some true
  tyC : typeIn K (.ref C) = some (.type "type")
  sup : ks_superIn K C C "__init__" = some (some (.builtin initId))
  any : nsIn K cStatics "thirdparty.any" = some none
  self : mroIn K C (.ref C) = some true
  nosup : mg "super" = none
  top : (prog.main.scope.names.lookup ("super" : Str)).isSome = false
  fn : ∃ (oc : Value) (od : Option Addr) (qual : Str) (par : Arguments) (dV kV doc pm ct : Value) (an : Option Addr) (osl : Array (Option Value)) (cc cda : Addr) (p1 p2 p3 p4 p5 p6 p7 p8 p9 p10 : Pos) (a1 : Arg) (ccl cl : Value) (cdd cld : Option Addr) (vs : Array Value) (ccs csl : Array (Option Value)) (file : Str) (tf : Tok),
    K.lookup fI = some ⟨oc, od, .func (ksFn "__init__" qual par [.Expr (.Call (.Attribute (.Call (.Name "super" p1) [] [] p2) "__init__" p3) [.Name fld p4] [] p5) p6, .Assign [.Attribute (.Name "self" p7) fld p8] (.Name fld p9) p10] (supS fld) dV kV doc pm an (.ref cda) ct cc), osl⟩ ∧
    codeIn K (.ref cda) qual = true ∧ (par.posonlyargs ++ par.args).head? = some a1 ∧ a1.arg = "self" ∧
    (∀ (s : Shared) (u v : Value), BindsTo s (ksFn "__init__" qual par [.Expr (.Call (.Attribute (.Call (.Name "super" p1) [] [] p2) "__init__" p3) [.Name fld p4] [] p5) p6, .Assign [.Attribute (.Name "self" p7) fld p8] (.Name fld p9) p10] (supS fld) dV kV doc pm an (.ref cda) ct cc) ⟨[u, v], []⟩ [("self", u), (fld, v)]) ∧
    (supS fld).names.lookup fld = some .local ∧ (supS fld).names.lookup ("super" : Str) = some .globalImplicit ∧ (supS fld).names.lookup ("__class__" : Str) = some .free ∧ (p3.endLine == p5.line) = true ∧ (fld == ("self" : Str)) = false ∧ (fld == ("__debug__" : Str)) = false ∧
    K.lookup cda = some ⟨ccl, cdd, .fields vs, ccs⟩ ∧ vs[2]? = some (.str file tf) ∧ ((prog.main.file : Str) == file) = true ∧ K.lookup cc = some ⟨cl, cld, .cell (some (.ref C)), csl⟩
/-- what __init__ leaves of a fresh exception at x -/
structure InitEnd (h h' : Heap) (x C dx t1 : Addr) (v : Value) (fld : Str) : Prop where
  keep : ∀ b o, b ≠ x → h.get? b = some o → h'.get? b = some o
  obj : h'.get? x = some (excObj C t1 (some dx) .none)
  dbig : h.objs.size ≤ dx
  dne : dx ≠ x
  ns : h'.Ns1 dx (fun y => if y = fld then some v else none)
section
variable {prog : Program} {w : World} {M : Model} {A : Around} {E : Value → Shared → Prop} {h : Heap} {g : Array GenState} {d : Drawn} {t : Nat} {os : OsState} {B i newId : String} {bmB : List Value} {K : Frag} {C x u : Addr}
/-- the bound built-in __init__ called: the args are laid anew -/
theorem call_mw {t0 : Addr} {rest : List Value} {Q : Value → Shared → Prop} (FB : ExcBaseFacts B newId i bmB) (X : K.In h) (q : excInitIn K C bmB newId = true) (he : h.get? x = some (excObj C t0 none .none)) (hu : h.get? u = some (kxs_mw i x)) (hz : rest.length ≤ sizeLine)
    (hq : ∀ h' t1, (∀ b o, b ≠ x → h.get? b = some o → h'.get? b = some o) → h'.get? x = some (excObj C t1 none .none) → Q .none ⟨h', g, d, t, os⟩) :
    wpAny (model prog w) A (call (.ref u) rest) Q E ⟨h, g, d, t, os⟩ := by
  obtain ⟨nm, N', qn, bs, bm, hdct, sn, sub, ab, col, dd, k0, k1, k2, k3, k5, hC, hT⟩ := excInit_of X q
  refine wpAny_call (codeAny_of_tree ?_)
  show wpAny _ A.in1 (callAny (.ref u) ⟨rest, []⟩) _ _ _
  simp only [callAny]
  refine wpAny_bind (wpAny_load hu ?_)
  simp only [kxs_mw, show (Value.type "method-wrapper" == Value.type "method" || Value.type "method-wrapper" == Value.type "builtin_function_or_method" || Value.type "method-wrapper" == Value.type "method-wrapper") = true by decide, if_true]
  refine KFB.if_so (by decide) ?_
  refine wpAny_bind (check_bound_init FB.toExcCallFacts hC he rfl ?_)
  refine wpAny_bind (wpAny_pure (wpAny_pure ?_))
  refine ⟨plainId_quiet FB.init.plain _, codeAny_builtin FB.initEntry ?_⟩
  exact exc_init_tree (cls := .ref C) (t0 := t0) (dv := none) (c2 := .none) (c3 := .none) (b4 := .bool false) he hz fun h' k e' _ => hq h' _ k e'
/-- self.f = v on an exception that has no dict yet -/
theorem osa_sup {name : Str} {tk : Tok} {v : Value} {t1 : Addr} {R : Result → Shared → Prop} (SF : StoreFacts B bmB "object.__setattr__" "object") (X : K.In h) (hx : h.get? x = some (excObj C t1 none .none)) (hp : excOver K C bmB = true) (ht : takerIn K C name = some none) (hh : hasDictIn K C = true)
    (hq : ∀ h' tk' dx, (∀ b o, b ≠ x → h.get? b = some o → h'.get? b = some o) → h.objs.size ≤ dx → dx ≠ x → h'.get? x = some (excObj C t1 (some dx) .none) → h'.Ns1 dx (fun y => if y = name then some v else none) → R (.ok (.ret .none)) ⟨h', g, d, tk', os⟩) :
    codeAny (model prog w) A (.call (.builtin "object.__setattr__") ⟨[.ref x, .str name tk, v], []⟩) R ⟨h, g, d, t, os⟩ := by
  have hxs : x ≠ h.objs.size := Nat.ne_of_lt (Heap.lt_size hx)
  obtain ⟨cd, hc, hd'⟩ := any_some hh
  have hcls : Looks (model prog w) h (classData C) cd := looks_clsIn X hc
  refine osa_openX (s := ⟨h, g, d, t, os⟩) (od := none) SF X ⟨hx, rfl, rfl, trivial⟩ hp ht fun b => ?_
  show wpAny _ _ (storeInOwnDict (.ref x) (.ref C) (.str name tk) name v b) _ _ _
  obtain ⟨nm, bs, mro, ns, qn, hd, sn, sb, ab, col, del⟩ := cd
  dsimp only at hd'
  subst hd'
  unfold storeInOwnDict ownDictForStores
  repeat (first | with_reducible refine HandSPX.store_in_new ?_ ?_ | with_reducible refine wpAny_loadPart_at hx ?_ | with_reducible refine hcls.at ?_ | wp_step)
  · exact ⟨_, #[], _, (Heap.get?_update_ne _ _ _ _ hxs.symm).trans (Heap.get?_push_at rfl rfl), rfl, fun e he => absurd he (by simp), fun _ => rfl⟩
  · intro h' tk' hn' hs
    have hx₁ : (h.push { cls := .type "dict", data := .dict #[] }).get? x = some (excObj C t1 none .none) := Heap.get?_push_of_some _ hx
    refine hq h' tk' h.objs.size (fun b o hb ho => ?_) (Nat.le_refl _) hxs.symm ?_ hn'
    · exact (hs.2 b (Nat.ne_of_lt (Heap.lt_size ho))).trans ((Heap.get?_update_ne _ _ _ _ hb).trans (Heap.get?_push_of_some _ ho))
    · exact (hs.2 x hxs).trans (Heap.get?_update_self _ hx₁ rfl)
end
section
variable {prog : Program} {w : World} {A : Around} {R : Result → Shared → Prop} {s : Shared} {K : Frag} {mg : Str → Option Value} {x fld : Str} {B newId initId : String} {bmB : List Value} {C fI : Addr}
theorem sup_init (T : SupF prog K mg x fld B newId initId bmB C fI) {e t0 : Addr} {v : Value} (X : K.In s.heap) (hg : s.heap.Ns mainGlobals mg) (hb : ∃ mb, s.heap.Ns builtinsNs mb ∧ ∀ y : Str, y ≠ "__name__" → mb y = bootBuiltins y) (hlim : s.heap.NoLimit)
    (hx : s.heap.get? e = some (excObj C t0 none .none)) (T_none : ¬ K.lookup e = some (excObj C t0 none .none)) (hroom : A.depth < recursionLimit)
    (hq : ∀ h' tk dx t1, InitEnd s.heap h' e C dx t1 v fld → R (.ok (.ret .none)) { s with heap := h', toks := tk }) :
    codeAny (model prog w) A (.call (.ref fI) ⟨[.ref e, v], []⟩) R s := by
  obtain ⟨oc, od, qual, par, dV, kV, doc, pm, ct, an, osl, cc, cda, p1, p2, p3, p4, p5, p6, p7, p8, p9, p10, a1, ccl, cl, cdd, cld, vs, ccs, csl, file, tf, ho, hcd, hpar, ha1, hbind, l2, l3, l4, hline, hfs, hfd, hcode, hvs, hfile, hcc⟩ := T.fn
  refine ks_codeAny_call_defAt (fd := ksFn "__init__" qual par _ (supS fld) dV kV doc pm an (.ref cda) ct cc) hroom (X _ _ ho) rfl hlim (codeRec_of X hcd) rfl (hbind s (.ref e) v) (fun z hz => by simp only [List.mem_cons, List.not_mem_nil, or_false] at hz; rcases hz with rfl | rfl | rfl | rfl <;> exact NameKind.noConfusion) (fun y hy => ?_) (fun h₁ hns k₁ => ?_) rfl rfl rfl
  · rcases List.mem_cons.mp hy with rfl | hy
    · rfl
    · rcases List.mem_cons.mp hy with rfl | hy
      · exact l2
      · cases hy
  show _root_.PySem.wpAt (model prog w) (A.deeper (ksEnv qual (supS fld) s.heap.objs.size fI (.ref cda) cc)) (.func _ (ksEnv qual (supS fld) s.heap.objs.size fI (.ref cda) cc)) (execs _ (ksEnv qual (supS fld) s.heap.objs.size fI (.ref cda) cc)) _ _ _
  obtain ⟨hp, g, d, tk, os⟩ := s
  have X₁ : K.In h₁ := X.keeps k₁
  have hx₁ := k₁ _ _ hx
  have nself : (fun y => [(("self" : Str), Value.ref e), (fld, v)].reverse.lookup y) "self" = some (.ref e) := by
    have e1 : (("self" : Str) == fld) = false := by rw [BEq.comm]; exact hfs
    simp [List.lookup, e1]
  have nfld : (fun y => [(("self" : Str), Value.ref e), (fld, v)].reverse.lookup y) fld = some v := by simp [List.lookup]
  have clsD : ∃ cd, clsIn K C = some cd := by
    have z := T.self
    unfold mroIn at z
    cases hc : clsIn K C with
    | none => rw [hc] at z; cases z
    | some cd => exact ⟨cd, rfl⟩
  obtain ⟨cd, hc⟩ := clsD
  obtain ⟨oD, hD1, hD2⟩ : ∃ oD, h₁.get? C = some oD ∧ oD.data = .cls cd := by
    unfold clsIn at hc
    split at hc
    · rename_i c d cd' sl hoo
      cases hc
      exact ⟨_, X₁ _ _ hoo, rfl⟩
    · cases hc
  have I₁ : InstAt h₁ e (excObj C t0 none .none) C none := ⟨hx₁, rfl, rfl, trivial⟩
  obtain ⟨mb, hb1, hb2⟩ := hb
  have hev : eval (.Call (.Attribute (.Call (.Name "super" p1) [] [] p2) "__init__" p3) [.Name fld p4] [] p5) (ksEnv qual (supS fld) hp.objs.size fI (.ref cda) cc) = (do
      let ov ← attributeBase (.Call (.Name "super" p1) [] [] p2) "__init__" (ksEnv qual (supS fld) hp.objs.size fI (.ref cda) cc) (eval (.Call (.Name "super" p1) [] [] p2) (ksEnv qual (supS fld) hp.objs.size fI (.ref cda) cc))
      standAt p3.atName
      let (f, first) ← holding [ov] (getMethod ov "__init__" (L2.plainOf (.Call (.Name "super" p1) [] [] p2) (ksEnv qual (supS fld) hp.objs.size fI (.ref cda) cc)))
      callWith p5 f first (backTo p5 (starEach [.Name fld p4] (ksEnv qual (supS fld) hp.objs.size fI (.ref cda) cc))) []) :=
    congrArg (fun k : Value → Sem Value => (do
      let ov ← attributeBase (.Call (.Name "super" p1) [] [] p2) "__init__" (ksEnv qual (supS fld) hp.objs.size fI (.ref cda) cc) (eval (.Call (.Name "super" p1) [] [] p2) (ksEnv qual (supS fld) hp.objs.size fI (.ref cda) cc))
      standAt p3.atName
      k ov)) (funext fun ov => L2.mcall_line (by rfl) hline)
  refine ks_wpAt_execs_cons (ks_wpAt_Expr_any (ks_wpAt_MethodCall (ks_wpAt_super_base (env := ksEnv qual (supS fld) hp.objs.size fI (.ref cda) cc) l3 l4 (by decide) rfl (X₁ _ _ ho) rfl hpar rfl (X₁ _ _ hcode) rfl hvs hfile T.top ?_) hev))
  refine ks_loadName_global rfl l3 (loadGlobal_builtin (env := ksEnv qual (supS fld) hp.objs.size fI (.ref cda) cc) (hg.keeps k₁) T.nosup (hb1.keeps k₁) ((hb2 _ (by decide +kernel)).trans (by first | boot_by_name | rfl | kernel_rfl)) ⟨rfl, ?_⟩)
  refine wpAny_loadName_free rfl l4 rfl ⟨_, X₁ _ _ hcc, rfl⟩ ?_
  rw [ha1]
  refine wpAny_loadName_local rfl rfl hns nself ?_
  refine ks_wpAny_isType_cls hD1 hD2 ⟨rfl, ?_⟩
  refine ks_wpAny_call_super hD1 hD2 hx₁ rfl (fun c z => by cases z) (looks_mroIn X₁ T.self) (fun h₂ hso k₂ => ?_)
  have X₂ : K.In h₂ := X₁.keeps k₂
  have hx₂ := k₂ _ _ hx₁
  have I₂ : InstAt h₂ e (excObj C t0 none .none) C none := ⟨hx₂, rfl, rfl, trivial⟩
  have hsup := T.sup
  unfold ks_superIn at hsup
  rw [hc, Option.bind_some] at hsup
  refine kxs_getMethod T.KF hso (looks_opaque X₂ T.any) (l₀ := cd.mro) (fun A Q E s k q => wpAny_bind ((looks_clsIn X₂ hc) A _ E s k (wpAny_pure q))) rfl X₂ hsup (I₂.type.andThen (looks_subIn X₂ T.exB)) (ks_ne X₂ I₂ hc) (by decide) ?_
  have hu : (h₂.push (kxs_mw initId e)).get? h₂.objs.size = some (kxs_mw initId e) := Heap.get?_push_at rfl rfl
  have k₃ : ∀ b o, h₂.get? b = some o → (h₂.push (kxs_mw initId e)).get? b = some o := fun b o z => Heap.get?_push_of_some _ z
  have hns₂ : (h₂.push (kxs_mw initId e)).Ns hp.objs.size (fun y => [(("self" : Str), Value.ref e), (fld, v)].reverse.lookup y) := hns.keeps fun b o z => k₃ b o (k₂ b o z)
  refine kxs_callWith (i := initId) (x := e) (by rfl) (evalArgs_plain ?_)
  show wpAny _ _ (spliced ((false, eval (.Name fld p4) (ksEnv qual (supS fld) hp.objs.size fI (.ref cda) cc)) :: backTo p5 (starEach [] (ksEnv qual (supS fld) hp.objs.size fI (.ref cda) cc)))) _ _ _
  refine Calls.spliced_cons (wpAny_Name (wpAny_loadName_local rfl l2 hns₂ nfld ?_) hfd)
  refine Calls.spliced_nil ⟨hu, ?_⟩
  show wpAny _ _ (call (.ref h₂.objs.size) [v]) _ _ _
  refine call_mw T.FB (X₂.keeps k₃) T.q (k₃ _ _ hx₂) hu (by show 1 ≤ sizeLine; rw [sizeLine_eq]; omega) fun h₃ t1 k₄ hx₃ => ?_
  have neL : hp.objs.size ≠ e := Nat.ne_of_gt (Heap.lt_size hx)
  have kk : ∀ b o, b ≠ e → hp.get? b = some o → h₃.get? b = some o := fun b o hb z => k₄ b o hb (k₃ b o (k₂ b o (k₁ b o z)))
  have X₃ : K.In h₃ := fun b o z => by
    by_cases hb : b = e
    · have y := X _ _ z
      rw [hb] at y z
      have : (excObj C t0 none .none) = o := Option.some.inj (hx.symm.trans y)
      subst this
      exact absurd z T_none
    · exact kk b o hb (X b o z)
  obtain ⟨oL, esL, epL, hoL, hrL⟩ := id hns₂
  have hns₃ : h₃.Ns hp.objs.size (fun y => [(("self" : Str), Value.ref e), (fld, v)].reverse.lookup y) := ⟨oL, esL, epL, k₄ _ _ neL hoL, hrL⟩
  show _root_.PySem.wpAt _ _ _ (execs _ _) _ _ _
  refine wpAt_of_wpAny (wpAny_execs_cons (plainObj_wpAny_Assign_Attribute ?_))
  refine wpAny_Name (wpAny_loadName_local rfl l2 hns₃ nfld ?_) hfd
  refine wpAny_Name (wpAny_loadName_local rfl rfl hns₃ nself ?_) (by decide)
  refine set_plain X₃ (ox := excObj C t1 none .none) (od := none) ⟨hx₃, rfl, rfl, trivial⟩ T.sa ?_
  refine osa_sup T.SF X₃ hx₃ T.over T.tk T.hd (fun h₄ tk₄ dx k₅ dn dne hx₄ hn₄ => ?_)
  show wpAny _ _ (execs _ _) _ _ _
  have z1 : hp.objs.size < h₃.objs.size := hns₃.lt
  exact wpAny_execs_nil (hq h₄ tk₄ dx t1 ⟨fun b o hb z => k₅ b o hb (kk b o hb z), hx₄, Nat.le_of_lt (Nat.lt_of_lt_of_le z1 dn), dne, hn₄⟩)
/-- a made x -/
structure Made (h h' : Heap) (e C d : Addr) (v : Value) (fld : Str) : Prop where
  keep : ∀ b o, h.get? b = some o → h'.get? b = some o
  new : h.objs.size ≤ e
  obj : ∃ oe vs, h'.get? e = some oe ∧ oe.cls = .ref C ∧ oe.dict = some d ∧ oe.data = .fields vs ∧ vs[1]? = some .none
  dbig : h.objs.size ≤ d
  dne : d ≠ e
  ns : h'.Ns1 d (fun y => if y = fld then some v else none)
theorem sup_made (T : SupF prog K mg x fld B newId initId bmB C fI) {v : Value} (X : K.In s.heap) (hg : s.heap.Ns mainGlobals mg) (hb : ∃ mb, s.heap.Ns builtinsNs mb ∧ ∀ y : Str, y ≠ "__name__" → mb y = bootBuiltins y) (hlim : s.heap.NoLimit) (hroom : A.depth + 1 < recursionLimit)
    (hq : ∀ h' tk e d, Made s.heap h' e C d v fld → R (.ok (.ret (.ref e))) { s with heap := h', toks := tk }) :
    codeAny (model prog w) A (.call (.ref C) ⟨[v], []⟩) R s := by
  obtain ⟨nm, N', qn, bs, bm, hdct, sn, sub, ab, col, dd, k0, k1, k2, k3, k5, hC, hT⟩ := excInit_of X T.q
  obtain ⟨hp, g, dr, tk, os⟩ := s
  have k : ∀ b o, hp.get? b = some o → ((hp.push (kdv_tup [v])).push (excObj C hp.objs.size none .none)).get? b = some o := fun b o e => Heap.get?_push_of_some _ (Heap.get?_push_of_some _ e)
  have hget : ((hp.push (kdv_tup [v])).push (excObj C hp.objs.size none .none)).get? (hp.objs.size + 1) = some (excObj C hp.objs.size none .none) := by heap_get
  have hnx : ¬ K.lookup (hp.objs.size + 1) = some (excObj C hp.objs.size none .none) := fun e => by
    have z : hp.get? (hp.objs.size + 1) = some _ := X _ _ e
    exact absurd (Nat.lt_of_succ_lt (Heap.lt_size z)) (Nat.lt_irrefl _)
  obtain ⟨mb, hb1, hb2⟩ := hb
  refine HandSPX.call_own T.FB hT hC (looks_findIn X T.iC) (fun self => bind_fn X self T.tC) (by show 1 ≤ sizeLine; rw [sizeLine_eq]; omega) ?_
  refine sup_init (s := ⟨(hp.push (kdv_tup [v])).push (excObj C hp.objs.size none .none), g, dr, tk, os⟩) T (X.keeps k) (hg.keeps k) ⟨mb, hb1.keeps k, hb2⟩ (hlim.keeps k) hget hnx ?_ fun h' tk' dx t1 ⟨k', hx, dn, dne, hns⟩ => ?_
  · show A.depth + 1 < recursionLimit
    exact hroom
  · have old : ∀ b o, hp.get? b = some o → h'.get? b = some o := fun b o e => k' b o (Nat.ne_of_lt (Nat.lt_succ_of_lt (Heap.lt_size e))) (k b o e)
    have z : hp.objs.size + 1 + 1 ≤ dx := by
      first
        | (simpa only [Heap.size_push] using dn)
        | exact dn
        | (have q := dn; rw [Heap.size_push, Heap.size_push] at q; exact q)
    exact ⟨rfl, hq h' tk' (hp.objs.size + 1) dx ⟨old, Nat.le_succ _, ⟨_, _, hx, rfl, rfl, rfl, rfl⟩, Nat.le_trans (Nat.le_trans (Nat.le_succ _) (Nat.le_succ _)) z, dne, hns⟩⟩
end
end SupX
namespace DL
open PySem PySem.Spec PyProof.Rows L2 SupX
theorem relO_one {fld : Str} {v : V} {v' : Value} (r : RelV v v') (f : Str) : RelO (List.lookup f [(fld, v)]) (if f = fld then some v' else none) := by
  by_cases hw : f = fld
  · subst hw
    rw [if_pos rfl]
    have q : List.lookup f [(f, v)] = some v := by simp [List.lookup]
    rw [q]
    exact r
  · rw [if_neg hw]
    have qw : (f == fld) = false := by simpa using hw
    have q2 : List.lookup f [(fld, v)] = none := by simp [List.lookup, qw]
    rw [q2]
    trivial
section
variable {X : Cx} {x fld : Str} {B newId initId : String} {bmB : List Value} {C fI : Addr}
/-- x(e), x with super().__init__(v); self.fld = v -/
def tMkSup (C : Addr) (fld : Str) (ta : TA) : L2.St → Hp → XK → Prop := fun σ H Q => ta σ H fun vs H1 => ∃ v, vs = [v] ∧ ∀ d, H1 d = none → Q (.ref C) (some d) (upd H1 d (.xd [(fld, v)]))
theorem pmk_sup {a : Expr} {ta : TA} {p pos : Pos} {k : Nat} (T : SupF X.prog X.K X.mg x fld B newId initId bmB C fI) (hr : Room k X.A) (ha : PA X [a] ta) (hg : Gl X x) (hdb : (x == ("__debug__" : Str)) = false := by decide)
    (he : starEach (a :: []) X.env = (false, eval a X.env) :: starEach [] X.env := by rfl) (hpl : (backTo pos (starEach [] X.env)).any (·.1) = false := by rfl) :
    PMk X (.Call (.Name x p) [a] [] pos) (tMkSup C fld ta) := by
  intro pins s σ H Q I h
  refine wpAny_Call_Name_kw (ld_glob I hg T.gC ?_ hdb)
  refine PySem.W.callWith_K (h₀ := X.base) I.ok.mod.kin T.kC (thn (ha.run pos pins s σ H _ I h) fun us s1 hh => ?_) he hpl
  obtain ⟨vs, H1, I1, r1, v, ev, q1⟩ := hh
  subst ev
  refine ⟨I1.kIn, ?_⟩
  cases r1 with
  | cons rv rn =>
    rename_i v' us'
    cases rn
    show wpAny _ _ (call (.ref C) [v']) _ _ _
    have hlim := I1.nolimit
    have hgl := I1.ok.mod.glob.keeps I1.bk
    obtain ⟨mb, hb1, hb2⟩ := I1.ok.mod.blt
    have hbl := hb1.keeps I1.bk
    obtain ⟨hp, g, dr, tk, os⟩ := s1
    refine wpAny_call (sup_made T I1.kIn hgl ⟨mb, hbl, hb2⟩ hlim (by have := hr.dp; omega) fun h' tk' e d M => ?_)
    show MkP X pins σ Q (.ref e) ⟨h', g, dr, tk', os⟩
    obtain ⟨oe, fv, hoe, hc, hd, hdat, h1⟩ := M.obj
    have hns := M.ns
    obtain ⟨G', g1, g2⟩ := restrict h' fun b => decide (b ≠ e)
    have gk : ∀ b, b ≠ e → G'.get? b = h'.get? b := fun b hb => g1 b (decide_eq_true hb)
    have ge : G'.get? e = none := g2 e (by simp)
    have old : ∀ b o, hp.get? b = some o → G'.get? b = some o := fun b o q => (gk b (Nat.ne_of_lt (Nat.lt_of_lt_of_le (Heap.lt_size q) M.new))).trans (M.keep b o q)
    have ob : ObjOk X.prog X.w (upd H1 d (.xd [(fld, v)])) G' d (.xd [(fld, v)]) :=
      ⟨_, hns.at (fun o q => (gk d M.dne).trans q), fun f => relO_one rv f⟩
    have J : Inv X pins σ (upd H1 d (.xd [(fld, v)])) ⟨G', g, dr, tk', os⟩ := I1.laid (t' := tk') old M.dbig ob
    refine ⟨e, oe, fv, ⟨G', g, dr, tk', os⟩, _, .ref C, some d, rfl, J, fun b o q => ?_, ge, hoe, ⟨hc, hd⟩, hdat, h1, ?_, rfl, I1.bare, raises_own T.exC T.tyC, q1 d (I1.hok.fresh M.dbig)⟩
    · by_cases hb : b = e
      · have q' : G'.get? b = some o := q
        rw [hb, ge] at q'; cases q'
      · exact (gk b hb).symm.trans q
    · rw [upd_ne (Ne.symm M.dne)]
      exact I1.hok.fresh M.new
end
end DL
end
section
set_option Elab.async false
set_option linter.all false
set_option maxRecDepth 100000
set_option maxHeartbeats 2000000
/-! Defs that may raise, by data. -/
namespace DL
open PySem PySem.Spec PyProof.Rows L2 Evl
/-- how a call ends: with data; with an error of a class; with one that bears a field -/
inductive Out where
  | ok (d : PyData)
  | err (c : Value)
  | errV (c : Value) (f : Str) (d : PyData)
def Post (K : PySem.W.Frag) (M : Addr → Prop) (H : Hp) (Q : VK) (E : XK) : Out → Prop
  | .ok d => ∀ v H', Ex H H' → Dp K (hid M H') v d → Q v H'
  | .err c => ∀ H', Ex H H' → E c none H'
  | .errV c f d => ∀ dd v H', Ex H H' → H' dd = some (.xd [(f, v)]) → Dp K (hid M H') v d → E c (some dd) H'
def spX (K : PySem.W.Frag) (F : List PyData → Out → Prop) : Sp := fun vs H Q E => ∃ M ds o, (∀ b, M b → H b ≠ none) ∧ DpAll K (hid M H) vs ds ∧ F ds o ∧ Post K M H Q E o
section
variable {P : Program} {w : World} {K : PySem.W.Frag} {mg : Str → Option Value} {base : Heap} {x : Str} {st : Stmt} {f : Addr} {fd : FuncData} {N ps : List Str} {k : Nat} {F : List PyData → Out → Prop}
theorem cal_X (Fn : FnP K x st f fd) (hm : mg x = some (.ref f)) (S : FnScope N ps (defScope st)) (hb : Binds K fd ps []) (len : ∀ ds o, F ds o → ds.length = ps.length)
    (hbody : ∀ (cdv : Value) (A : Around) (outer : List Env) (s : Shared) (H : Hp) (vs : List V) (Q : VK) (E : XK), Room k (A.deeper (envOfC x (defScope st) s.heap.objs.size f cdv)) →
      ∃ t, PSs (cxOf (L2.CX P w) P w K mg base N x (defScope st) f cdv A outer s H E) (defBody st) t ∧
        ∀ M ds o, (∀ b, M b → H b ≠ none) → DpAll K (hid M H) vs ds → F ds o → Post K M H Q E o → t { nx := fun _ H' => Q .non H', rt := Q } (start N vs) H) : Cal P w K mg base x (k + 1) ps (spX K F) := by
  refine cal_mk Fn hm S hb (fun vs H Q E h => ?_) fun cdv A outer s H vs Q E hr h => ?_
  · obtain ⟨M, ds, o, _, r, hR, _⟩ := h
    rw [dpa_len r]
    exact len ds o hR
  · obtain ⟨M, ds, o, hM, r, hR, q⟩ := h
    obtain ⟨t, hp, ht⟩ := hbody cdv A outer s H vs Q E hr
    exact ⟨t, hp, ht M ds o hM r hR q⟩
end
section
variable {K : PySem.W.Frag} {G H H0 : Hp} {d : PyData} {ds : List PyData} {σ : L2.St} {ta : TA} {M : Addr → Prop} {J : Hp → Prop} {D : Ends} {u : TS} {F : List PyData → Out → Prop} {E : XK} {o : Out}
theorem ed_callX (h : EvDA K ta σ H ds) (hF : F ds (.ok d)) : EvD K (tCall (spX K F) [] E ta) σ H d := fun M H1 e Q q =>
  h M H1 e _ fun vs H2 e2 r => ⟨M, ds, .ok d, (e.step e2).tk, by rw [List.append_nil]; exact r, hF, fun v H3 e3 rv => q v H3 (e2.trans e3) rv⟩
/-- f(..) as a statement, f may raise -/
theorem y_dropX (a : Ax M J G H) (h : EvDA K ta σ G ds) (hF : F ds o) (k : ∀ H1, Ax M J G H1 → Post K M H1 (fun _ H2 => u D σ H2) E o) : tSeq (tDrop (tCall (spX K F) [] E ta)) u D σ H :=
  h M H a.x _ fun vs H2 e2 r => ⟨M, ds, o, (a.step e2).x.tk, by rw [List.append_nil]; exact r, hF, k H2 (a.step e2)⟩
theorem x_dropX (a : Ax M J G H) (h : EvDA K ta σ G ds) (hF : F ds o) (k : ∀ H1, Ax M J G H1 → Post K M H1 (fun _ H2 => D.nx σ H2) E o) : tDrop (tCall (spX K F) [] E ta) D σ H :=
  h M H a.x _ fun vs H2 e2 r => ⟨M, ds, o, (a.step e2).x.tk, by rw [List.append_nil]; exact r, hF, k H2 (a.step e2)⟩
/-- return f(..), f may raise -/
theorem x_retX (a : Ax M J G H) (h : EvDA K ta σ G ds) (hF : F ds o) (k : ∀ H1, Ax M J G H1 → Post K M H1 D.rt E o) : tRet (tCall (spX K F) [] E ta) D σ H :=
  h M H a.x _ fun vs H2 e2 r => ⟨M, ds, o, (a.step e2).x.tk, by rw [List.append_nil]; exact r, hF, k H2 (a.step e2)⟩
/-- an own error without a field is raised -/
structure OwnE (K : PySem.W.Frag) (mg : Str → Option Value) (x : Str) (C : Addr) : Prop where
  gC : mg x = some (.ref C)
  q : PySem.W.excIn K C [.type "ValueError", .type "Exception", .type "BaseException", .type "object"] "ValueError.__new__" = true
  kC : PySem.W.keepIn K (.ref C) = true
  exC : PySem.W.subIn K (.ref C) (.type "BaseException") = some true
  tyC : PySem.W.typeIn K (.ref C) = some (.type "type")
theorem Post.step {H1 : Hp} {Q : VK} (h : Post K M H Q E o) (e : Ex H H1) : Post K M H1 Q E o := by
  cases o with
  | ok d => exact fun v H' e2 r => h v H' (e.trans e2) r
  | err c => exact fun H' e2 => h H' (e.trans e2)
  | errV c f d => exact fun dd v H' e2 q r => h dd v H' (e.trans e2) q r
end
section
variable {X : Cx} {x m : Str} {C : Addr} {j : Nat} {p p2 pos pos2 : Pos} {W : WX}
theorem ps_raiseOwn (hc : X.calm = true) (T : OwnE X.K X.mg x C) (tk : Takes X W) (hg : Gl X x) (hdb : (x == ("__debug__" : Str)) = false := by decide) :
    PS X (.Raise (some (.Call (.Name x p) [.Constant (.str m) j p2] [] pos)) none pos2) (fun _ σ H => W (.ref C) none σ H) :=
  ps_raise hc tk (pmk_own PySem.F.excBase_ValueError T.q T.gC T.kC (raises_own T.exC T.tyC) hg hdb)
/-- raise x(e), x with a field -/
def tRaiseSup (C : Addr) (fld : Str) (W : WX) (ta : TA) : TS := fun _ σ H => tMkSup C fld ta σ H fun cls d H' => W cls d σ H'
theorem ps_raiseSup {fld : Str} {B newId initId : String} {bmB : List Value} {fI : Addr} {a : Expr} {ta : TA} {k : Nat} (hc : X.calm = true) (T : SupX.SupF X.prog X.K X.mg x fld B newId initId bmB C fI) (hr : Room k X.A) (tk : Takes X W) (ha : PA X [a] ta) (hg : Gl X x) (hdb : (x == ("__debug__" : Str)) = false := by decide)
    (he : starEach (a :: []) X.env = (false, eval a X.env) :: starEach [] X.env := by rfl) (hpl : (backTo pos (starEach [] X.env)).any (·.1) = false := by rfl) :
    PS X (.Raise (some (.Call (.Name x p) [a] [] pos)) none pos2) (tRaiseSup C fld W ta) := ps_raise hc tk (pmk_sup T hr ha hg hdb he hpl)
end
section
variable {K : PySem.W.Frag} {G H : Hp} {d : PyData} {σ : L2.St} {ta : TA} {M : Addr → Prop} {J : Hp → Prop} {D : Ends} {E : XK} {C : Addr} {fld : Str}
theorem x_raiseSup (a : Ax M J G H) (h : EvDA K ta σ G [d]) (k : ∀ H1, Ax M J G H1 → ∀ dd v H', Ex H1 H' → H' dd = some (.xd [(fld, v)]) → Dp K (hid M H') v d → E (.ref C) (some dd) H') : tRaiseSup C fld (fun cls d _ H => E cls d H) ta D σ H :=
  h M H a.x _ fun vs H2 e2 r => by
    obtain ⟨v, rfl, r1⟩ := dpa1 r
    exact ⟨v, rfl, fun dd hd => k H2 (a.step e2) dd v _ (Ex.new hd) upd_same (dph M (Ex.new hd) r1)⟩
end
end DL
end
section
set_option Elab.async false
set_option linter.all false
set_option maxRecDepth 100000
set_option maxHeartbeats 2000000
/-! Dice: a list of three ints that changes; what is drawn of it is any number below the total. -/
namespace DL
open PySem PySem.Spec PyProof.Rows L2 Evl
section
variable {X : Cx}
abbrev rMulG : R2 := fun x y H Q => rI CMul (fun i j => .int (i * j)) x y H Q ∨ rRep x y H Q
theorem op_mulG : OpR X (binaryOp .Mult) rMulG := op_mul.or op_rep
variable {K : PySem.W.Frag} {H : Hp} {i j : Int} {ds : List PyData} {σ : L2.St}
theorem rg_mul (hc : CMul i j) : RD K rMulG H (.int i) (.int j) (.int (i * j)) := (rd_mul hc).inl
theorem ed_repG {ta : TA} {k : Int} (h : EvDA K ta σ H ds) (hl : ds.length ≤ 1000) (hk : 0 ≤ k ∧ k ≤ 100) : EvD K (tOp rMulG (tLst ta) (tC (.int k))) σ H (.list (List.replicate k.toNat ds).flatten) := fun M H1 e Q q =>
  h M H1 e _ fun vs H2 e2 r => by
    have l := dpa_len r
    refine ⟨sz_of (by omega), fun p hp => .inr ⟨p, k, vs, rfl, rfl, upd_same, by omega, by omega, sz_of ?_, fun p2 hp2 => ?_⟩⟩
    · rw [l]
      exact Nat.le_trans (Nat.mul_le_mul hl (by omega : k.toNat ≤ 100)) (by omega)
    · have x2 := (e.step e2)
      have x3 := x2.step (Ex.new hp (o := .lst vs))
      exact q _ _ ((e2.trans (Ex.new hp)).trans (Ex.new hp2)) (new_lst hp2 (x3.fresh hp2) (dpa_rep _ (dpah M (Ex.new hp) r)))
theorem cmul_r {i j : Int} (h1 : -1000000000000000 ≤ j) (h2 : j ≤ 1000000000000000) : CMul i j := .inr ⟨by omega, by omega⟩
theorem cmul_l {i j : Int} (h1 : -10000000000000000000 ≤ i) (h2 : i ≤ 10000000000000000000) : CMul i j := .inl ⟨by omega, by omega⟩
end
/-- dice at p -/
def Dice (p : Addr) (H : Hp) : Prop := ∃ a b c : Int, H p = some (.lst [.int a, .int b, .int c]) ∧ 0 ≤ a
theorem Dice.up {p : Addr} : Up (Dice p) := fun H H' e ⟨a, b, c, h, q⟩ => ⟨a, b, c, e _ _ h, q⟩
/-- all but p stands -/
def But (p : Addr) (H H' : Hp) : Prop := ∀ b o, b ≠ p → H b = some o → H' b = some o
theorem Ex.but {p : Addr} {H H' : Hp} (e : Ex H H') : But p H H' := fun b o _ h => e b o h
theorem But.trans {p : Addr} {H H1 H2 : Hp} (a : But p H H1) (b : But p H1 H2) : But p H H2 := fun c o h q => b c o h (a c o h q)
theorem but_upd {p : Addr} {H : Hp} {o : HO} : But p H (upd H p o) := fun b u h q => by rw [upd_ne h]; exact q
def spRoll : Sp := fun vs H Q _ => ∃ (p : Addr) (n : Int), vs = [.ref p, .int n] ∧ 0 < n ∧ n ≤ 1000 ∧ Dice p H ∧ ∀ (r : Int) (H' : Hp), 0 ≤ r → r < n → Dice p H' → But p H H' → Q (.int r) H'
/-- J tells of the dice, and stays when only they change -/
structure DJ (p : Addr) (M : Addr → Prop) (J : Hp → Prop) : Prop where
  m : M p
  d : ∀ H, J H → Dice p H
  j : ∀ H H', J H → Dice p H' → But p H H' → J H'
theorem DJ.dice {p : Addr} : DJ p (fun b => b = p) (Dice p) := ⟨rfl, fun _ h => h, fun _ _ _ h _ => h⟩
section
variable {K : PySem.W.Frag} {p : Addr} {G H H' : Hp} {M : Addr → Prop} {J : Hp → Prop} {σ : L2.St} {tn : TE} {n : Int} {i : Nat} {E : XK}
theorem but_hid (hm : M p) (b : But p H H') : Ex (hid M H) (hid M H') := fun c o h => by
  by_cases hc : M c
  · rw [hid_yes hc] at h; cases h
  · rw [hid_no hc] at h ⊢
    exact b c o (fun z => hc (z ▸ hm)) h
theorem Ax.but (a : Ax M J G H) (dj : DJ p M J) (hd : Dice p H') (b : But p H H') : Ax M J G H' := by
  refine ⟨⟨fun c hc z => ?_, a.x.ex.trans (but_hid dj.m b)⟩, dj.j _ _ a.j hd b, a.u⟩
  by_cases hp : c = p
  · obtain ⟨x, y, w, h, _⟩ := hd
    rw [hp, h] at z
    cases z
  · cases q : H c with
    | none => exact a.x.tk c hc q
    | some o =>
      rw [b c o hp q] at z
      cases z
theorem en_roll (dj : DJ p M J) (hp : σ[i]? = some (some (.ref p))) (hn : EvD K tn σ G (.int n)) (h0 : 0 < n ∧ n ≤ 1000) : EvN K M J (tCall spRoll [] E (tCons (tVar i) (tCons tn tNil))) σ G (fun d => ∃ r, d = .int r ∧ 0 ≤ r ∧ r < n) := fun H1 a Q q => by
  refine ⟨_, hp, hn M H1 a.x _ fun v H2 e r => ?_⟩
  cases r
  have a2 := a.step e
  exact ⟨p, n, rfl, h0.1, h0.2, dj.d _ a2.j, fun r H3 r0 r1 hd hb => q _ H3 _ ((hid_ex e).trans (but_hid dj.m hb)) (a2.but dj hd hb) ⟨r, rfl, r0, r1⟩ (.int r)⟩
/-- a def that is handed dice first: they change, the rest stands; F: which answers there may be -/
def spD (K : PySem.W.Frag) (Pre : List PyData → Prop) (F : List PyData → PyData → Prop) : Sp := fun vs H Q _ => ∃ M J p ws ds, vs = .ref p :: ws ∧ Ax M J (hid M H) H ∧ DJ p M J ∧ DpAll K (hid M H) ws ds ∧ Pre ds ∧
  ∀ v H' d, Ex (hid M H) (hid M H') → Ax M J (hid M H) H' → F ds d → Dp K (hid M H') v d → Q v H'
variable {Pre : List PyData → Prop} {F : List PyData → PyData → Prop} {ta : TA} {ds : List PyData}
theorem en_callD (dj : DJ p M J) (hp : σ[i]? = some (some (.ref p))) (h : EvDA K ta σ G ds) (hpre : Pre ds) : EvN K M J (tCall (spD K Pre F) [] E (tCons (tVar i) ta)) σ G (F ds) := fun H1 a Q q => by
  refine ⟨_, hp, h M H1 a.x _ fun vs H2 e r => ?_⟩
  have a2 := a.step e
  refine ⟨M, J, p, vs, ds, by rw [List.append_nil], a2.here, dj, r, hpre, fun v H3 d e3 a3 hF rv => q v H3 d ((hid_ex e).trans e3) ⟨⟨a3.x.tk, a2.x.ex.trans a3.x.ex⟩, a3.j, a3.u⟩ hF rv⟩
end
section
variable {P : Program} {w : World} {K : PySem.W.Frag} {mg : Str → Option Value} {base : Heap} {x : Str} {st : Stmt} {f : Addr} {fd : FuncData} {N ps : List Str} {k n : Nat} {Pre : List PyData → Prop} {F : List PyData → PyData → Prop}
theorem cal_N (Fn : FnP K x st f fd) (hm : mg x = some (.ref f)) (S : FnScope N ps (defScope st)) (hb : Binds K fd ps []) (len : ∀ ds, Pre ds → ds.length + 1 = ps.length)
    (hbody : ∀ (cdv : Value) (A : Around) (outer : List Env) (s : Shared) (H : Hp) (vs : List V) (Q : VK) (E : XK), Room k (A.deeper (envOfC x (defScope st) s.heap.objs.size f cdv)) →
      ∃ t, PSs (cxOf (L2.CX P w) P w K mg base N x (defScope st) f cdv A outer s H E) (defBody st) t ∧
        ∀ M J p ws ds, vs = .ref p :: ws → Ax M J (hid M H) H → DJ p M J → DpAll K (hid M H) ws ds → Pre ds → (∀ v H' d, Ex (hid M H) (hid M H') → Ax M J (hid M H) H' → F ds d → Dp K (hid M H') v d → Q v H') →
          t { nx := fun _ H' => Q .non H', rt := Q } (start N vs) H) : Cal P w K mg base x (k + 1) ps (spD K Pre F) := by
  refine cal_mk Fn hm S hb (fun vs H Q E h => ?_) fun cdv A outer s H vs Q E hr h => ?_
  · obtain ⟨M, J, p, ws, ds, rfl, _, _, r, hR, _⟩ := h
    rw [List.length_cons, dpa_len r]
    exact len ds hR
  · obtain ⟨M, J, p, ws, ds, e, a, dj, r, hR, q⟩ := h
    obtain ⟨t, hp, ht⟩ := hbody cdv A outer s H vs Q E hr
    exact ⟨t, hp, ht M J p ws ds e a dj r hR q⟩
end
section
variable {K : PySem.W.Frag} {G H : Hp} {σ : L2.St} {te : TE} {M : Addr → Prop} {J : Hp → Prop} {D : Ends} {u : TS} {p : Addr} {xs : List V} {x k : Int} {i j : Nat}
theorem ax0 (u : Up J) (j : J H) : Ax M0 J H H := ⟨⟨fun b hb => hb.elim, by rw [hid_0]; exact Ex.refl H⟩, j, u⟩
/-- xs[k] = x of ints -/
theorem y_setI (a : Ax M J G H) (h : EvD K te σ G (.int x)) (ho : σ[i]? = some (some (.ref p))) (hp : G p = some (.lst xs)) (hj : ixN xs.length k = some j) (kk : ∀ H1, Ax M J G H1 → H1 p = some (.lst xs) → u D σ (upd H1 p (.lst (xs.set j (.int x))))) :
    tSeq (tAsg te (gSub (tVar i) (tC (.int k)) rSetL)) u D σ H :=
  h M H a.x _ fun v H1 e r => by
    cases r
    have a1 := a.step e
    have hp1 : H1 p = some (.lst xs) := hid_sub _ _ (a1.x.ex _ _ hp)
    exact ⟨_, ho, _, _, _, _, rfl, rfl, hp1, hj, kk H1 a1 hp1⟩
theorem dp_l3 {a b c : Int} (hp : H p = some (.lst [.int a, .int b, .int c])) : Dp K H (.ref p) (.list [.int a, .int b, .int c]) := .lst (sq_of hp) (.cons (.int a) (.cons (.int b) (.cons (.int c) .nil)))
end
section
variable {K : PySem.W.Frag} {G H : Hp} {σ : L2.St} {ta : TA} {M : Addr → Prop} {J : Hp → Prop} {D : Ends} {ds : List PyData}
/-- return [..]: the new list's place -/
theorem x_retL (a : Ax M J G H) (h : EvDA K ta σ G ds) (hl : ds.length ≤ 100000) (q : ∀ p vs H1, Ax M J G H1 → H1 p = none → DpAll K (hid M H1) vs ds → D.rt (.ref p) (upd H1 p (.lst vs))) : tRet (tLst ta) D σ H :=
  h M H a.x _ fun vs H1 e r => ⟨sz_of (by rw [dpa_len r]; exact hl), fun p hp => q p vs H1 (a.step e) hp r⟩
/-- two lists' worth of promise: dice made anew -/
def spDice (K : PySem.W.Frag) : Sp := fun vs H Q _ => ∃ (M : Addr → Prop) (ns : List Int), ∃ i : Nat, (∀ b, M b → H b ≠ none) ∧ DpAll K (hid M H) vs [.list (ns.map .int), .int (Int.ofNat i)] ∧ i ≤ 100 ∧ ∀ p H', Ex H H' → H p = none → Dice p H' → Q (.ref p) H'
end
section
variable {K : PySem.W.Frag} {G H : Hp} {σ : L2.St} {te : TE} {M : Addr → Prop} {J : Hp → Prop} {D : Ends} {i : Nat} {n : Int}
/-- the last statement of a suite: x = an int -/
theorem h_asgI (a : Ax M J G H) (h : EvD K te σ G (.int n)) (k : ∀ H1, Ax M J G H1 → D.nx (σ.set i (some (.int n))) H1) : tAsg te (gName i) D σ H := h M H a.x _ fun v H1 e r => by
  cases r
  exact k H1 (a.step e)
end
section
variable {K : PySem.W.Frag} {G H : Hp} {σ : L2.St} {t : TT} {M : Addr → Prop} {J : Hp → Prop} {D : Ends} {tu u : TS} {b : Bool} {α : Type}
/-- if ..: suite (no else); what follows is shown once, for the slots S c -/
theorem y_ifRest (S : α → L2.St) (a : Ax M J G H) (h : EvB K t σ G b) (h2 : b = false → ∃ c, S c = σ) (rest : ∀ c H2, Ax M J G H2 → u D (S c) H2) (h1 : b = true → ∀ H1, Ax M J G H1 → (∀ c H2, Ax M J G H2 → u D (S c) H2) → tu { D with nx := u D } σ H1) : tSeq (tIfS t tu tNext) u D σ H :=
  y_if0 a h (fun hb H1 a1 => h1 hb H1 a1 rest) fun hb H1 a1 => by
    obtain ⟨c, e⟩ := h2 hb
    rw [← e]
    exact rest c H1 a1
end
section
variable {K K' : PySem.W.Frag} {G H : Hp} {σ : L2.St} {te tn : TE} {M : Addr → Prop} {J : Hp → Prop} {D : Ends} {tu u : TS} {R : PyData → Prop} {d d1 d2 : PyData} {i j : Nat} {n : Int} {l p : Addr}
theorem m_ret (a : Ax M J G H) (h : EvN K M J te σ G R) (q : ∀ v H' d, Ex (hid M H) (hid M H') → Ax M J G H' → R d → Dp K (hid M H') v d → D.rt v H') : tRet te D σ H := h H a _ fun v H1 d e a1 hR r => q v H1 d e a1 hR r
theorem m_asg (a : Ax M J G H) (h : EvN K M J te σ G R) (k : ∀ v H1 d, Ax M J (hid M H1) H1 → Ex G (hid M H1) → R d → Dp K (hid M H1) v d → u D (σ.set i (some v)) H1) : tSeq (tAsg te (gName i)) u D σ H :=
  h H a _ fun v H1 d e a1 hR r => k v H1 d a1.here a1.x.ex hR r
theorem m_asgE (a : Ax M J G H) (h : EvN K M J te σ G R) (k : ∀ v H1 d, Ax M J (hid M H1) H1 → Ex G (hid M H1) → R d → Dp K (hid M H1) v d → D.nx (σ.set i (some v)) H1) : tAsg te (gName i) D σ H :=
  h H a _ fun v H1 d e a1 hR r => k v H1 d a1.here a1.x.ex hR r
/-- for _ in range(n), the turns' own invariant -/
theorem y_forRP (a : Ax M J G H) {ta : TA} (h : EvDA K ta σ G [.int n]) (hn : 0 ≤ n ∧ n ≤ 100000) (Pv : Nat → L2.St → Hp → Prop) (h0 : ∀ H1, Ax M J G H1 → Pv 0 σ H1)
    (hs : ∀ (i : Nat) σ' H', (i : Int) < n → Pv i σ' H' → tu { nx := Pv (i + 1), rt := D.rt, ct := Pv (i + 1), bk := u D } (σ'.set j (some (.int (i : Int)))) H') (hd : ∀ σ' H', Pv n.toNat σ' H' → u D σ' H') : tSeq (tFor (iRng1 ta) (gName j) tu) u D σ H :=
  h M H a.x _ fun vs H1 e r => by
    obtain ⟨v, rfl, r1⟩ := dpa1 r
    cases r1
    refine ⟨n, rfl, by omega, by omega, for_range (lo := 0) (n := n.toNat) Pv (h0 H1 (a.step e)) (fun i σ' H' hi p => ?_) hd⟩
    have e0 : (0 : Int) + (i : Int) = (i : Int) := Int.zero_add _
    show tu { nx := Pv (i + 1), rt := D.rt, ct := Pv (i + 1), bk := u D } (σ'.set j (some (.int ((0 : Int) + (i : Int))))) H'
    rw [e0]
    exact hs i σ' H' (by omega) p
/-- for _ in range(a drawn number) -/
theorem y_forRN (a : Ax M J G H) {m : Int} (h : EvN K M J tn σ G (fun d => ∃ r, d = .int r ∧ 0 ≤ r ∧ r < m)) (hm : m ≤ 1000) (Pv : Nat → L2.St → Hp → Prop) (h0 : ∀ H1, Ax M J G H1 → Pv 0 σ H1)
    (hs : ∀ (i : Nat) σ' H', (i : Int) + 1 < m → Ax M J G H' → Pv i σ' H' → tu { nx := fun σ2 H2 => Ax M J G H2 ∧ Pv (i + 1) σ2 H2, rt := D.rt, ct := fun σ2 H2 => Ax M J G H2 ∧ Pv (i + 1) σ2 H2, bk := u D } (σ'.set j (some (.int (i : Int)))) H')
    (hd : ∀ (i : Nat) σ' H', (i : Int) < m → Ax M J G H' → Pv i σ' H' → u D σ' H') : tSeq (tFor (iRng1 (tCons tn tNil)) (gName j) tu) u D σ H :=
  h H a _ fun v H1 d e a1 hR r1 => by
    obtain ⟨r, rfl, r0, rm⟩ := hR
    cases r1
    refine ⟨r, rfl, by omega, by omega, for_range (lo := 0) (n := r.toNat) (fun i σ' H' => Ax M J G H' ∧ Pv i σ' H') ⟨a1, h0 H1 a1⟩ (fun i σ' H' hi p => ?_) fun σ' H' p => hd r.toNat σ' H' (by omega) p.1 p.2⟩
    have e0 : (0 : Int) + (i : Int) = (i : Int) := Int.zero_add _
    show tu { nx := fun σ2 H2 => Ax M J G H2 ∧ Pv (i + 1) σ2 H2, rt := D.rt, ct := fun σ2 H2 => Ax M J G H2 ∧ Pv (i + 1) σ2 H2, bk := u D } (σ'.set j (some (.int ((0 : Int) + (i : Int))))) H'
    rw [e0]
    exact hs i σ' H' (by omega) p.1 p.2
/-- x, y = a pair -/
theorem y_unT (a : Ax M J G H) (h : EvD K te σ G (.tuple [d1, d2])) (k : ∀ x y H1, Ax M J (hid M H1) H1 → Ex G (hid M H1) → Dp K (hid M H1) x d1 → Dp K (hid M H1) y d2 → u D ((σ.set i (some x)).set j (some y)) H1) :
    tSeq (tAsg te (gTup K 2 (gCons (gName i) (gCons (gName j) gNil)))) u D σ H := h M H a.x _ fun v H1 e r => by
  cases r with
  | tup hs ha =>
    obtain ⟨x, y, rfl, r1, r2⟩ := dpa2 ha
    exact ⟨_, _, rfl, hst hs, rfl, _, _, rfl, _, _, rfl, rfl, k x y H1 (a.step e).here (a.step e).x.ex r1 r2⟩
theorem y_unI {m : Int} (a : Ax M J G H) (h : EvD K te σ G (.tuple [.int n, .int m])) (k : ∀ H1, Ax M J G H1 → u D ((σ.set i (some (.int n))).set j (some (.int m))) H1) :
    tSeq (tAsg te (gTup K 2 (gCons (gName i) (gCons (gName j) gNil)))) u D σ H := h M H a.x _ fun v H1 e r => by
  cases r with
  | tup hs ha =>
    obtain ⟨x, y, rfl, r1, r2⟩ := dpa2 ha
    cases r1
    cases r2
    exact ⟨_, _, rfl, hst hs, rfl, _, _, rfl, _, _, rfl, rfl, k H1 (a.step e)⟩
theorem m_unL (a : Ax M J G H) (h : EvN K M J te σ G R) (hR : ∀ d, R d → ∃ d1 d2, d = .list [d1, d2]) (k : ∀ x y H1 d1 d2, Ax M J (hid M H1) H1 → Ex G (hid M H1) → R (.list [d1, d2]) → Dp K (hid M H1) x d1 → Dp K (hid M H1) y d2 → u D ((σ.set i (some x)).set j (some y)) H1) :
    tSeq (tAsg te (gUnl K 2 (gCons (gName i) (gCons (gName j) gNil)))) u D σ H := h H a _ fun v H1 d e a1 hr r => by
  obtain ⟨d1, d2, rfl⟩ := hR d hr
  cases r with
  | lst hs ha =>
    obtain ⟨x, y, rfl, r1, r2⟩ := dpa2 ha
    exact ⟨_, _, rfl, hsl hs, rfl, _, _, rfl, _, _, rfl, rfl, k x y H1 d1 d2 a1.here a1.x.ex hr r1 r2⟩
/-- xs.append(e), the last statement of a suite -/
theorem m_append (a : Ax M J G H) (ho : σ[i]? = some (some (.ref l))) (hJ : ∀ H, J H → ∃ xs, H l = some (.lst xs) ∧ xs.length ≤ 50000) (h : EvN K M J te σ G R)
    (k : ∀ v H1 d xs, Ax M J G H1 → R d → Dp K (hid M H1) v d → H1 l = some (.lst xs) → D.nx σ (upd H1 l (.lst (xs ++ [v])))) : tDrop (tBM K' "list" rAppend (tVar i) (tCons te tNil)) D σ H := by
  obtain ⟨xs0, e0, _⟩ := hJ H a.j
  refine ⟨_, ho, .inl ⟨rfl, _, sq_of e0⟩, h H a _ fun v H1 d e a1 hR r => ?_⟩
  obtain ⟨xs, e1, hz⟩ := hJ H1 a1.j
  exact ⟨l, xs, v, rfl, rfl, e1, sz_lt (by omega), k v H1 d xs a1 hR r e1⟩
end
theorem pg_unlK {X : Cx} {K : PySem.W.Frag} (hK : X.K = K) {es : List Expr} {k : Nat} {t : TGs} {n : Nat} {pos : Pos} (hc : X.calm = true) (h : PGs X es t) (hn : (assignEach es X.env).length = n := by rfl) (hst : (assignEach es X.env).findIdx? (·.1) = none := by rfl) :
    PG X (.Tuple es k pos) (gUnl K n t) := by
  subst hK
  exact pg_unl hc h hn hst
section
variable {K : PySem.W.Frag} {G H H1 H' : Hp} {σ : L2.St} {t : TE} {M : Addr → Prop} {J : Hp → Prop} {R : PyData → Prop} {p l : Addr} {o : HO}
theorem enb_tst (h : EvN K M J t σ G R) {RB : Bool → Prop} (hb : ∀ d, R d → ∃ b, d = .bool b ∧ RB b) : EvNB M J (tTest t) σ G RB := fun H1 a Q q => h H1 a _ fun v H2 d e a2 hR r => by
  obtain ⟨b, rfl, hb⟩ := hb d hR
  cases r
  exact ⟨b, rfl, q b H2 e a2 hb⟩
/-! ### a list that is being filled, at l -/
abbrev Mor (M : Addr → Prop) (l : Addr) : Addr → Prop := fun b => M b ∨ b = l
theorem hid_in (h : M l) : hid M (upd H l o) = hid M H := funext fun c => by
  by_cases hc : M c
  · rw [hid_yes hc, hid_yes hc]
  · rw [hid_no hc, hid_no hc, upd_ne (fun z : c = l => hc (by rw [z]; exact h))]
theorem hid_less : Ex (hid (Mor M l) H) (hid M H) := fun b o q => by
  by_cases h : M b ∨ b = l
  · rw [hid_yes h] at q; cases q
  · rw [hid_no h] at q
    rw [hid_no fun z => h (.inl z)]
    exact q
theorem del_ex (e : Ex H H') : Ex (del H l) (del H' l) := fun b o q => by
  by_cases h : b = l
  · rw [h, del_same] at q; cases q
  · rw [del_ne h] at q ⊢
    exact e b o q
theorem del_sub : Ex (del H l) H := fun b o q => by
  by_cases h : b = l
  · rw [h, del_same] at q; cases q
  · rw [del_ne h] at q
    exact q
theorem del_upd : del (upd H l o) l = del H l := funext fun b => by
  by_cases h : b = l
  · rw [h, del_same, del_same]
  · rw [del_ne h, del_ne h, upd_ne h]
theorem del_none (h : H l = none) : del H l = H := funext fun b => by
  by_cases e : b = l
  · rw [e, del_same, h]
  · rw [del_ne e]
/-- J of the rest, and at l a list of these data -/
def JL (K : PySem.W.Frag) (M : Addr → Prop) (J : Hp → Prop) (l : Addr) (P : List PyData → Prop) : Hp → Prop := fun H => J (del H l) ∧ ∃ xs ds, H l = some (.lst xs) ∧ DpAll K (hid (Mor M l) H) xs ds ∧ P ds
theorem JL.up {P : List PyData → Prop} (u : Up J) : Up (JL K M J l P) := fun H H' e ⟨j, xs, ds, h, r, hp⟩ => ⟨u _ _ (del_ex e) j, xs, ds, e _ _ h, dpah _ e r, hp⟩
theorem JL.dj {P : List PyData → Prop} (d : DJ p M J) (hl : l ≠ p) : DJ p (Mor M l) (JL K M J l P) where
  m := .inl d.m
  d := fun H ⟨j, _⟩ => by
    obtain ⟨a, b, c, h, q⟩ := d.d _ j
    exact ⟨a, b, c, del_sub _ _ h, q⟩
  j := fun H H' ⟨j, xs, ds, h, r, hp⟩ hd hb => by
    refine ⟨d.j _ _ j ?_ ?_, xs, ds, hb _ _ hl h, Dpax (but_hid (.inl d.m) hb) r, hp⟩
    · obtain ⟨a, b, c, h, q⟩ := hd
      exact ⟨a, b, c, by rw [del_ne (Ne.symm hl)]; exact h, q⟩
    · intro b o hbp q
      by_cases h : b = l
      · rw [h, del_same] at q; cases q
      · rw [del_ne h] at q ⊢
        exact hb b o hbp q
/-- the empty list is made -/
theorem JL.start {P : List PyData → Prop} (a : Ax M J G H1) (hl : H1 l = none) (h0 : P []) : Ax (Mor M l) (JL K M J l P) (hid (Mor M l) (upd H1 l (.lst []))) (upd H1 l (.lst [])) :=
  .startJ (fun b hb z => by
    by_cases h : b = l
    · rw [h, upd_same] at z; cases z
    · rw [upd_ne h] at z
      exact a.x.tk b (hb.elim id fun e => absurd e h) z) (JL.up a.u) ⟨by rw [del_upd, del_none hl]; exact a.j, [], [], upd_same, .nil, h0⟩
/-- one is put behind -/
theorem JL.more {P P' : List PyData → Prop} {xs : List V} {v : V} {d : PyData} (a : Ax (Mor M l) (JL K M J l P) G H) (u : Up J) (h : H l = some (.lst xs)) (r : Dp K (hid (Mor M l) H) v d) (hp : ∀ ds, P ds → P' (ds ++ [d])) : Ax (Mor M l) (JL K M J l P') G (upd H l (.lst (xs ++ [v]))) := by
  obtain ⟨j, xs', ds, h', rs, hP⟩ := a.j
  have e : xs' = xs := by
    rw [h] at h'
    cases h'
    rfl
  subst e
  refine ⟨⟨fun b hb z => ?_, by rw [hid_in (.inr rfl)]; exact a.x.ex⟩, ⟨by rw [del_upd]; exact j, _, ds ++ [d], upd_same, by rw [hid_in (.inr rfl)]; exact dpa_append rs (.cons r .nil), hp ds hP⟩, JL.up u⟩
  by_cases e : b = l
  · rw [e, upd_same] at z; cases z
  · rw [upd_ne e] at z
    exact a.x.tk b hb z
/-- it is handed on -/
theorem JL.done {P : List PyData → Prop} (a : Ax (Mor M l) (JL K M J l P) G H) (u : Up J) (hl : ¬ M l) : J H ∧ ∃ ds, Dp K (hid M H) (.ref l) (.list ds) ∧ P ds := by
  obtain ⟨j, xs, ds, h, r, hp⟩ := a.j
  exact ⟨u _ _ del_sub j, ds, .lst (sq_of (by rw [hid_no hl]; exact h)) (Dpax hid_less r), hp⟩
end
section
variable {K : PySem.W.Frag} {G H : Hp} {σ : L2.St} {ta : TA} {M : Addr → Prop} {J : Hp → Prop} {D : Ends} {u : TS} {d1 d2 : PyData} {i j : Nat}
/-- x = [] -/
theorem y_newL (k : ∀ l, H l = none → u D (σ.set i (some (.ref l))) (upd H l (.lst []))) : tSeq (tAsg (tLst tNil) (gName i)) u D σ H := ⟨by decide, fun l hl => k l hl⟩
/-- x, y = e, e' -/
theorem y_par (a : Ax M J G H) (h : EvDA K ta σ G [d1, d2]) (k : ∀ x y H1, Ax M J (hid M H1) H1 → Ex G (hid M H1) → Dp K (hid M H1) x d1 → Dp K (hid M H1) y d2 → u D ((σ.set i (some x)).set j (some y)) H1) : tSeq (tPar i j ta) u D σ H :=
  h M H a.x _ fun vs H1 e r => by
    obtain ⟨x, y, rfl, r1, r2⟩ := dpa2 r
    exact ⟨x, y, rfl, k x y H1 (a.step e).here (a.step e).x.ex r1 r2⟩
end
section
variable {K : PySem.W.Frag} {G H : Hp} {σ : L2.St} {te : TE} {M : Addr → Prop} {J : Hp → Prop} {D : Ends} {i : Nat} {n : Str}
theorem h_asgS (a : Ax M J G H) (h : EvD K te σ G (.str n)) (k : ∀ H1, Ax M J G H1 → D.nx (σ.set i (some (.str n))) H1) : tAsg te (gName i) D σ H := h M H a.x _ fun v H1 e r => by
  cases r
  exact k H1 (a.step e)
theorem rc_reprB {b : Bool} : RCD K rRepr H [.bool b] (.str (if b then "True" else "False")) := fun M vs H1 x r Q q => by
  obtain ⟨v, rfl, r1⟩ := dpa1 r
  cases r1
  exact .inr (.inl ⟨b, rfl, q _ H1 (Ex.refl H1) (.str _)⟩)
theorem rc_reprI {i : Int} (hz : i.natAbs.log2 < 1920) : RCD K rRepr H [.int i] (.str (toString i)) := fun M vs H1 x r Q q => by
  obtain ⟨v, rfl, r1⟩ := dpa1 r
  cases r1
  exact .inr (.inr (.inl ⟨i, rfl, hz, q _ H1 (Ex.refl H1) (.str _)⟩))
theorem rc_reprN : RCD K rRepr H [.none] (.str "None") := fun M vs H1 x r Q q => by
  obtain ⟨v, rfl, r1⟩ := dpa1 r
  cases r1
  exact .inl ⟨rfl, q _ H1 (Ex.refl H1) (.str _)⟩
theorem rc_reprS {z : Str} (hz : (reprText z).length ≤ 100000) : RCD K rRepr H [.str z] (.str (reprText z)) := fun M vs H1 x r Q q => by
  obtain ⟨v, rfl, r1⟩ := dpa1 r
  cases r1
  exact .inr (.inr (.inr ⟨z, rfl, sz_of hz, q _ H1 (Ex.refl H1) (.str _)⟩))
end
end DL
end
section
set_option Elab.async false
set_option linter.all false
set_option maxRecDepth 100000
set_option maxHeartbeats 4000000
/-! The text of the row by places: each def's statement, its names by slot, its scope. -/
namespace K95
open PySem PySem.Spec PyProof.Rows L2
def top (i : Nat) : Stmt := PySem.Challenge.pw_deedline_k95_whole_stands_judged_by_thei.main.body.getD i (.Pass ⟨0, 0, 0, 0⟩)
abbrev s_is_integer : Stmt := top 15
def N_is_integer : List Str := ["value"]
theorem sc_is_integer : FnScope ["value"] ["value"] (defScope s_is_integer) := ⟨rfl, rfl, rfl, by decide +kernel, rfl, by decide +kernel, by decide +kernel⟩
abbrev s_is_within : Stmt := top 16
def N_is_within : List Str := ["value", "least", "most"]
theorem sc_is_within : FnScope ["value", "least", "most"] ["value", "least", "most"] (defScope s_is_within) := ⟨rfl, rfl, rfl, by decide +kernel, rfl, by decide +kernel, by decide +kernel⟩
abbrev s_is_branch : Stmt := top 20
def N_is_branch : List Str := ["value", "pair", "one", "other"]
theorem sc_is_branch : FnScope ["value", "pair", "one", "other"] ["value"] (defScope s_is_branch) := ⟨rfl, rfl, rfl, by decide +kernel, rfl, by decide +kernel, by decide +kernel⟩
abbrev s_is_stand : Stmt := top 23
def N_is_stand : List Str := ["value"]
theorem sc_is_stand : FnScope ["value"] ["value"] (defScope s_is_stand) := ⟨rfl, rfl, rfl, by decide +kernel, rfl, by decide +kernel, by decide +kernel⟩
abbrev s_require_stand : Stmt := top 24
def N_require_stand : List Str := ["value"]
theorem sc_require_stand : FnScope ["value"] ["value"] (defScope s_require_stand) := ⟨rfl, rfl, rfl, by decide +kernel, rfl, by decide +kernel, by decide +kernel⟩
abbrev s_pairs_up_to : Stmt := top 25
def N_pairs_up_to : List Str := ["branch", "place", "pair"]
theorem sc_pairs_up_to : FnScope ["branch", "place", "pair"] ["branch", "place"] (defScope s_pairs_up_to) := ⟨rfl, rfl, rfl, by decide +kernel, rfl, by decide +kernel, by decide +kernel⟩
abbrev s_cut : Stmt := top 26
def N_cut : List Str := ["stand", "place"]
theorem sc_cut : FnScope ["stand", "place"] ["stand", "place"] (defScope s_cut) := ⟨rfl, rfl, rfl, by decide +kernel, rfl, by decide +kernel, by decide +kernel⟩
abbrev s_begin_at : Stmt := top 27
def N_begin_at : List Str := ["branch", "index"]
theorem sc_begin_at : FnScope ["branch", "index"] ["branch", "index"] (defScope s_begin_at) := ⟨rfl, rfl, rfl, by decide +kernel, rfl, by decide +kernel, by decide +kernel⟩
abbrev s_limits_in : Stmt := top 28
def N_limits_in : List Str := ["one", "other", "index"]
theorem sc_limits_in : FnScope ["one", "other", "index"] ["one", "other"] (defScope s_limits_in) := ⟨rfl, rfl, rfl, by decide +kernel, rfl, by decide +kernel, by decide +kernel⟩
abbrev s_shared_in : Stmt := top 29
def N_shared_in : List Str := ["one", "other"]
theorem sc_shared_in : FnScope ["one", "other"] ["one", "other"] (defScope s_shared_in) := ⟨rfl, rfl, rfl, by decide +kernel, rfl, by decide +kernel, by decide +kernel⟩
abbrev s_require_stands : Stmt := top 30
def N_require_stands : List Str := ["one", "other"]
theorem sc_require_stands : FnScope ["one", "other"] ["one", "other"] (defScope s_require_stands) := ⟨rfl, rfl, rfl, by decide +kernel, rfl, by decide +kernel, by decide +kernel⟩
abbrev s_shared_place : Stmt := top 31
def N_shared_place : List Str := ["one", "other"]
theorem sc_shared_place : FnScope ["one", "other"] ["one", "other"] (defScope s_shared_place) := ⟨rfl, rfl, rfl, by decide +kernel, rfl, by decide +kernel, by decide +kernel⟩
abbrev s_judged : Stmt := top 32
def N_judged : List Str := ["one", "other", "shared"]
theorem sc_judged : FnScope ["one", "other", "shared"] ["one", "other"] (defScope s_judged) := ⟨rfl, rfl, rfl, by decide +kernel, rfl, by decide +kernel, by decide +kernel⟩
abbrev s_is_later : Stmt := top 33
def N_is_later : List Str := ["one", "other"]
theorem sc_is_later : FnScope ["one", "other"] ["one", "other"] (defScope s_is_later) := ⟨rfl, rfl, rfl, by decide +kernel, rfl, by decide +kernel, by decide +kernel⟩
abbrev s__law_dice : Stmt := top 35
def N__law_dice : List Str := ["script", "at", "cell", "great", "left", "mixed"]
theorem sc__law_dice : FnScope ["script", "at", "cell", "great", "left", "mixed"] ["script", "at"] (defScope s__law_dice) := ⟨rfl, rfl, rfl, by decide +kernel, rfl, by decide +kernel, by decide +kernel⟩
abbrev s__law_roll : Stmt := top 36
def N__law_roll : List Str := ["dice", "total", "size", "drawn", "one", "two"]
theorem sc__law_roll : FnScope ["dice", "total", "size", "drawn", "one", "two"] ["dice", "total"] (defScope s__law_roll) := ⟨rfl, rfl, rfl, by decide +kernel, rfl, by decide +kernel, by decide +kernel⟩
abbrev s__law_one_of : Stmt := top 37
def N__law_one_of : List Str := ["dice", "items"]
theorem sc__law_one_of : FnScope ["dice", "items"] ["dice", "items"] (defScope s__law_one_of) := ⟨rfl, rfl, rfl, by decide +kernel, rfl, by decide +kernel, by decide +kernel⟩
abbrev s__law_met : Stmt := top 38
def N__law_met : List Str := ["call", "e"]
theorem sc__law_met : FnScope ["call", "e"] ["call"] (defScope s__law_met) := ⟨rfl, rfl, rfl, by decide +kernel, rfl, by decide +kernel, by decide +kernel⟩
abbrev s__law_more : Stmt := top 39
def N__law_more : List Str := ["dice", "branch", "most", "turn", "number", "begin"]
theorem sc__law_more : FnScope ["dice", "branch", "most", "turn", "number", "begin"] ["dice", "branch", "most"] (defScope s__law_more) := ⟨rfl, rfl, rfl, by decide +kernel, rfl, by decide +kernel, by decide +kernel⟩
abbrev s__law_two : Stmt := top 40
def N__law_two : List Str := ["dice", "base", "found", "turn", "branch"]
theorem sc__law_two : FnScope ["dice", "base", "found", "turn", "branch"] ["dice"] (defScope s__law_two) := ⟨rfl, rfl, rfl, by decide +kernel, rfl, by decide +kernel, by decide +kernel⟩
abbrev s__law_under : Stmt := top 41
def N__law_under : List Str := ["stand", "branch", "place", "found", "at", "pair"]
theorem sc__law_under : FnScope ["stand", "branch", "place", "found", "at", "pair"] ["stand"] (defScope s__law_under) := ⟨rfl, rfl, rfl, by decide +kernel, rfl, by decide +kernel, by decide +kernel⟩
abbrev s__law_shared : Stmt := top 42
def N__law_shared : List Str := ["one", "other", "left", "right", "limit", "at", "pair"]
theorem sc__law_shared : FnScope ["one", "other", "left", "right", "limit", "at", "pair"] ["one", "other"] (defScope s__law_shared) := ⟨rfl, rfl, rfl, by decide +kernel, rfl, by decide +kernel, by decide +kernel⟩
abbrev s__law_two_right : Stmt := top 43
def N__law_two_right : List Str := ["one", "other", "shared", "ends", "word", "later", "place", "first", "second", "pair"]
theorem sc__law_two_right : FnScope ["one", "other", "shared", "ends", "word", "later", "place", "first", "second", "pair"] ["one", "other"] (defScope s__law_two_right) := ⟨rfl, rfl, rfl, by decide +kernel, rfl, by decide +kernel, by decide +kernel⟩
abbrev s__law_near_right : Stmt := top 44
def N__law_near_right : List Str := ["dice", "stand", "branch", "place", "last", "odd", "bad", "fine", "value", "far", "told"]
theorem sc__law_near_right : FnScope ["dice", "stand", "branch", "place", "last", "odd", "bad", "fine", "value", "far", "told"] ["dice", "stand"] (defScope s__law_near_right) := ⟨rfl, rfl, rfl, by decide +kernel, rfl, by decide +kernel, by decide +kernel⟩
abbrev s_law : Stmt := top 45
def N_law : List Str := ["script", "at", "dice", "turn", "one", "other", "long", "told"]
theorem sc_law : FnScope ["script", "at", "dice", "turn", "one", "other", "long", "told"] ["script"] (defScope s_law) := ⟨rfl, rfl, rfl, by decide +kernel, rfl, by decide +kernel, by decide +kernel⟩
end K95
end
section
set_option Elab.async false
set_option linter.all false
set_option maxRecDepth 100000
set_option maxHeartbeats 2000000
/-! Branches and stands: pairs of ints, and what the program makes of them. -/
namespace K95
open PySem PySem.Spec PyProof.Rows L2 Evl DL
abbrev Br := List (Int × Int)
def encP (p : Int × Int) : PyData := .tuple [.int p.1, .int p.2]
abbrev encB (b : Br) : PyData := .tuple (b.map encP)
abbrev encS (s : Br × Int) : PyData := .tuple [encB s.1, .int s.2]
def isInteger (a : PyData) : Bool := isInt a && !isBool a
def isWithin (a : PyData) (lo hi : Int) : Bool := match a with
  | .int i => decide (lo ≤ i) && decide (i ≤ hi)
  | _ => false
theorem isWithin_int {a : PyData} {lo hi : Int} (h : isWithin a lo hi = true) : ∃ i, a = .int i ∧ lo ≤ i ∧ i ≤ hi := by
  cases a <;> first | (cases h; done) | skip
  rename_i i
  have h' : (decide (lo ≤ i) && decide (i ≤ hi)) = true := h
  simp at h'
  exact ⟨i, rfl, h'.1, h'.2⟩
def lenD : PyData → Int
  | .tuple ds => ds.length
  | _ => 0
def pairOk : PyData → Bool
  | .tuple [x, y] => isWithin x 0 1000000000000 && isWithin y 0 1000000000000
  | _ => false
theorem pairOk_len {d : PyData} (h : (!isTup d || !PyData.eqv (.int (lenD d)) (.int 2)) = false) : ∃ x y, d = .tuple [x, y] := by
  cases d <;> first | (cases h; done) | skip
  rename_i ds
  have h' : (!PyData.eqv (.int (ds.length : Int)) (.int 2)) = false := h
  rw [eqv_int] at h'
  simp at h'
  match ds, h' with
  | [x, y], _ => exact ⟨x, y, rfl⟩
  | [], h => cases h
  | [_], h => cases h
  | _ :: _ :: _ :: _, h => simp at h; omega
theorem pairOk_no {d : PyData} (h : (!isTup d || !PyData.eqv (.int (lenD d)) (.int 2)) = true) : pairOk d = false := by
  cases d <;> first | rfl | skip
  rename_i ds
  have h' : (!PyData.eqv (.int (ds.length : Int)) (.int 2)) = true := h
  rw [eqv_int] at h'
  simp at h'
  match ds, h' with
  | [x, y], h => exact absurd rfl h
  | [], _ => rfl
  | [_], _ => rfl
  | _ :: _ :: _ :: _, _ => rfl
theorem pairOk_int {d : PyData} (h : pairOk d = true) : ∃ i j : Int, d = encP (i, j) ∧ 0 ≤ i ∧ i ≤ 1000000000000 ∧ 0 ≤ j ∧ j ≤ 1000000000000 := by
  unfold pairOk at h
  split at h
  · rw [Bool.and_eq_true] at h
    obtain ⟨i, rfl, h1, h2⟩ := isWithin_int h.1
    obtain ⟨j, rfl, h3, h4⟩ := isWithin_int h.2
    exact ⟨i, j, rfl, h1, h2, h3, h4⟩
  · cases h
theorem sh_encP {n : Nat} {p : Int × Int} : Sh (n + 1) (encP p) := sh_tup (sh_cons sh_int (sh_cons sh_int sh_nil))
theorem sh_encB {n : Nat} {b : Br} : Sh (n + 2) (encB b) := sh_tup (sh_map fun _ => sh_encP)
theorem sh_encS {n : Nat} {s : Br × Int} : Sh (n + 3) (encS s) := sh_tup (sh_cons sh_encB (sh_cons sh_int sh_nil))
theorem eqv_encP (a b : Int × Int) : PyData.eqv (encP a) (encP b) = decide (a = b) := by
  unfold encP
  rw [eqv_tup, eqva_cons, eqva_cons, eqva_nil, eqv_int, eqv_int]
  obtain ⟨a1, a2⟩ := a
  obtain ⟨b1, b2⟩ := b
  simp
theorem eqva_encB (a b : Br) : PyData.eqvAll (a.map encP) (b.map encP) = decide (a = b) := eqva_map eqv_encP a b
def stepD : PyData → PyData → Bool
  | .tuple [.int a, .int b], .tuple [.int c, .int e] => decide (a < c) && decide (b ≤ e)
  | _, _ => false
def stepT : PyData → Bool
  | .tuple [x, y] => stepD x y
  | _ => false
def chainD (ds : List PyData) : Bool := (List.zipWith stepD ds (ds.drop 1)).all id
def headOk (ds : List PyData) : Bool := match ds with
  | d :: _ => PyData.eqv d (.tuple [.int 0, .int 0])
  | [] => false
theorem headOk_cons {d : PyData} {ds : List PyData} : headOk (d :: ds) = PyData.eqv d (.tuple [.int 0, .int 0]) := rfl
def isBranch : PyData → Bool
  | .tuple ds => (decide (1 ≤ (ds.length : Int)) && decide ((ds.length : Int) ≤ 20)) && (ds.all pairOk && (headOk ds && chainD ds))
  | _ => false
theorem isTup_of {a : PyData} (h : (!isTup a) = false) : ∃ ds, a = .tuple ds := by cases a <;> first | exact ⟨_, rfl⟩ | (cases h; done)
theorem isBranch_no {a : PyData} (h : (!isTup a || !(decide (1 ≤ lenD a) && decide (lenD a ≤ 20))) = true) : isBranch a = false := by
  cases a <;> first | rfl | skip
  rename_i ds
  have h' : (decide (1 ≤ (ds.length : Int)) && decide ((ds.length : Int) ≤ 20)) = false := by
    rw [Bool.eq_false_iff]
    intro z
    have h2 : (!(decide (1 ≤ (ds.length : Int)) && decide ((ds.length : Int) ≤ 20))) = true := h
    rw [z] at h2
    cases h2
  show ((decide (1 ≤ (ds.length : Int)) && decide ((ds.length : Int) ≤ 20)) && _) = false
  rw [h']
  rfl
theorem branch_len {a : PyData} (h : (!isTup a || !(decide (1 ≤ lenD a) && decide (lenD a ≤ 20))) = false) : ∃ ds, a = .tuple ds ∧ 1 ≤ ds.length ∧ ds.length ≤ 20 := by
  cases a <;> first | (cases h; done) | skip
  rename_i ds
  refine ⟨ds, rfl, ?_⟩
  have h' : (decide (1 ≤ (ds.length : Int)) && decide ((ds.length : Int) ≤ 20)) = true := by
    cases z : (decide (1 ≤ (ds.length : Int)) && decide ((ds.length : Int) ≤ 20)) with
    | true => rfl
    | false =>
      have h2 : (!(decide (1 ≤ (ds.length : Int)) && decide ((ds.length : Int) ≤ 20))) = false := h
      rw [z] at h2
      cases h2
  simp at h'
  omega
theorem isBranch_bad {ds : List PyData} {d : PyData} (hd : d ∈ ds) (h : pairOk d = false) : isBranch (.tuple ds) = false := by
  have e : ds.all pairOk = false := by
    rw [Bool.eq_false_iff]
    intro z
    rw [List.all_eq_true.mp z d hd] at h
    cases h
  show (_ && (ds.all pairOk && _)) = false
  rw [e]
  simp
theorem isBranch_eq {ds : List PyData} (h1 : 1 ≤ ds.length) (h2 : ds.length ≤ 20) (h : ds.all pairOk = true) : isBranch (.tuple ds) = (headOk ds && chainD ds) := by
  show ((decide (1 ≤ (ds.length : Int)) && decide ((ds.length : Int) ≤ 20)) && (ds.all pairOk && (headOk ds && chainD ds))) = _
  rw [h, decide_eq_true (by omega), decide_eq_true (by omega)]
  simp
/-- a right branch, as pairs of ints -/
structure BrOk (b : Br) : Prop where
  pos : 1 ≤ b.length
  len : b.length ≤ 20
  rng : ∀ p ∈ b, 0 ≤ p.1 ∧ p.1 ≤ 1000000000000 ∧ 0 ≤ p.2 ∧ p.2 ≤ 1000000000000
  head : b.head? = some (0, 0)
  chain : (List.zipWith (fun p q : Int × Int => decide (p.1 < q.1) && decide (p.2 ≤ q.2)) b (b.drop 1)).all id = true
theorem all_enc : ∀ {ds : List PyData}, ds.all pairOk = true → ∃ b : Br, ds = b.map encP ∧ ∀ p ∈ b, 0 ≤ p.1 ∧ p.1 ≤ 1000000000000 ∧ 0 ≤ p.2 ∧ p.2 ≤ 1000000000000
  | [], _ => ⟨[], rfl, fun _ h => nomatch h⟩
  | d :: ds, h => by
    rw [List.all_cons, Bool.and_eq_true] at h
    obtain ⟨i, j, rfl, hr⟩ := pairOk_int h.1
    obtain ⟨b, rfl, hb⟩ := all_enc h.2
    refine ⟨(i, j) :: b, rfl, fun p hp => ?_⟩
    rcases List.mem_cons.mp hp with rfl | hp
    · exact hr
    · exact hb p hp
theorem pairOk_enc {p : Int × Int} (h : 0 ≤ p.1 ∧ p.1 ≤ 1000000000000 ∧ 0 ≤ p.2 ∧ p.2 ≤ 1000000000000) : pairOk (encP p) = true := by
  show ((decide (0 ≤ p.1) && decide (p.1 ≤ 1000000000000)) && (decide (0 ≤ p.2) && decide (p.2 ≤ 1000000000000))) = true
  rw [decide_eq_true h.1, decide_eq_true h.2.1, decide_eq_true h.2.2.1, decide_eq_true h.2.2.2]
  rfl
theorem chain_enc (b : Br) : chainD (b.map encP) = (List.zipWith (fun p q : Int × Int => decide (p.1 < q.1) && decide (p.2 ≤ q.2)) b (b.drop 1)).all id := by
  unfold chainD
  rw [← List.map_drop, List.zipWith_map]
  rfl
theorem head_enc (b : Br) : headOk (b.map encP) = true ↔ b.head? = some (0, 0) := by
  cases b with
  | nil => simp [headOk]
  | cons p b =>
    show PyData.eqv (encP p) (encP (0, 0)) = true ↔ _
    rw [eqv_encP]
    simp
theorem isBranch_iff {a : PyData} : isBranch a = true ↔ ∃ b, a = encB b ∧ BrOk b := by
  constructor
  · intro h
    cases a <;> first | (cases h; done) | skip
    rename_i ds
    have h' : ((decide (1 ≤ (ds.length : Int)) && decide ((ds.length : Int) ≤ 20)) && (ds.all pairOk && (headOk ds && chainD ds))) = true := h
    simp only [Bool.and_eq_true, decide_eq_true_eq] at h'
    obtain ⟨⟨l1, l2⟩, hall, hh, hc⟩ := h'
    obtain ⟨b, rfl, hb⟩ := all_enc hall
    rw [List.length_map] at l1 l2
    exact ⟨b, rfl, by omega, by omega, hb, (head_enc b).mp hh, by rw [← chain_enc]; exact hc⟩
  · rintro ⟨b, rfl, hb⟩
    have hall : (b.map encP).all pairOk = true := by
      rw [List.all_eq_true]
      intro d hd
      obtain ⟨p, hp, rfl⟩ := List.mem_map.mp hd
      exact pairOk_enc (hb.rng p hp)
    have h1 := hb.pos
    have h2 := hb.len
    rw [isBranch_eq (by rw [List.length_map]; exact h1) (by rw [List.length_map]; exact h2) hall, (head_enc b).mpr hb.head, chain_enc, hb.chain]
    rfl
/-- the place at which a branch's last part begins -/
def lastP : PyData → Int
  | .tuple ds => match ds.getLast? with
    | some (.tuple [_, .int y]) => y
    | _ => 0
  | _ => 0
def isStand : PyData → Bool
  | .tuple [b, p] => isBranch b && isWithin p (lastP b) 1000000000000
  | _ => false
/-- a right stand -/
structure StOk (s : Br × Int) : Prop where
  br : BrOk s.1
  last : ∀ p, s.1.getLast? = some p → p.2 ≤ s.2
  place : s.2 ≤ 1000000000000
theorem lastP_enc {b : Br} {p : Int × Int} (h : b.getLast? = some p) : lastP (encB b) = p.2 := by
  show (match (b.map encP).getLast? with | some (.tuple [_, .int y]) => y | _ => 0) = p.2
  rw [List.getLast?_map, h]
  rfl
theorem last_ex {b : Br} (h : 1 ≤ b.length) : ∃ c p, b = c ++ [p] ∧ b.getLast? = some p := by
  have h1 : b ≠ [] := by
    rintro rfl
    cases h
  exact ⟨b.dropLast, b.getLast h1, (List.dropLast_concat_getLast h1).symm, List.getLast?_eq_some_getLast h1⟩
theorem isStand_iff {a : PyData} : isStand a = true ↔ ∃ s, a = encS s ∧ StOk s := by
  constructor
  · intro h
    unfold isStand at h
    split at h
    · rw [Bool.and_eq_true] at h
      obtain ⟨b, rfl, hb⟩ := isBranch_iff.mp h.1
      obtain ⟨i, rfl, h1, h2⟩ := isWithin_int h.2
      exact ⟨(b, i), rfl, hb, fun p hp => by rw [lastP_enc hp] at h1; exact h1, h2⟩
    · cases h
  · rintro ⟨⟨b, i⟩, rfl, h⟩
    obtain ⟨c, p, _, hp⟩ := last_ex h.br.pos
    show (isBranch (encB b) && isWithin (.int i) (lastP (encB b)) 1000000000000) = true
    rw [isBranch_iff.mpr ⟨b, rfl, h.br⟩, lastP_enc hp]
    have h1 := h.last p hp
    have h2 := h.place
    show (true && (decide (p.2 ≤ i) && decide (i ≤ 1000000000000))) = true
    rw [decide_eq_true h1, decide_eq_true h2]
    rfl
/-! ### the program's words -/
def upTo (b : Br) (p : Int) : Br := b.filter fun x => decide (x.2 ≤ p)
def beginAt (b : Br) (i : Nat) : List Int := match b[i]? with
  | some p => [p.2]
  | none => []
def limitsIn : Br → Br → List Int
  | x :: xs, y :: ys => if x = y then limitsIn xs ys else [min x.2 y.2]
  | x :: _, [] => [x.2]
  | [], y :: _ => [y.2]
  | [], [] => []
theorem limits_drop : ∀ (i : Nat) (a b : Br), a.take i = b.take i → limitsIn a b = limitsIn (a.drop i) (b.drop i)
  | 0, _, _, _ => rfl
  | i + 1, [], [], _ => by simp
  | i + 1, [], y :: ys, h => by simp at h
  | i + 1, x :: xs, [], h => by simp at h
  | i + 1, x :: xs, y :: ys, h => by
    simp only [List.take_succ_cons, List.cons.injEq] at h
    rw [limitsIn, if_pos h.1, limits_drop i xs ys h.2]
    rfl
theorem limits_self : ∀ a : Br, limitsIn a a = []
  | [] => rfl
  | x :: xs => by rw [limitsIn, if_pos rfl, limits_self xs]
theorem drop_one (a : Br) (i : Nat) : (a.drop i).take 1 = match a[i]? with | some p => [p] | none => [] := by
  cases h : a[i]? with
  | none => rw [List.drop_eq_nil_of_le (List.getElem?_eq_none_iff.mp h)]; rfl
  | some p =>
    obtain ⟨h1, h2⟩ := List.getElem?_eq_some_iff.mp h
    rw [List.drop_eq_getElem_cons h1, h2]
    rfl
theorem limits_at {a b : Br} {i : Nat} (h : a.take i = b.take i) (hne : (a.drop i).take 1 ≠ (b.drop i).take 1) : ∃ m, limitsIn a b = [m] ∧ m ∈ beginAt a i ++ beginAt b i ∧ ∀ y ∈ beginAt a i ++ beginAt b i, m ≤ y := by
  rw [limits_drop i a b h]
  unfold beginAt
  cases h1 : a[i]? with
  | none =>
    cases h2 : b[i]? with
    | none => rw [drop_one, drop_one, h1, h2] at hne; exact absurd rfl hne
    | some q =>
      obtain ⟨k, e⟩ := List.getElem?_eq_some_iff.mp h2
      rw [List.drop_eq_nil_of_le (List.getElem?_eq_none_iff.mp h1), List.drop_eq_getElem_cons k, e]
      exact ⟨q.2, rfl, by simp, by simp⟩
  | some p =>
    obtain ⟨j, e1⟩ := List.getElem?_eq_some_iff.mp h1
    cases h2 : b[i]? with
    | none =>
      rw [List.drop_eq_nil_of_le (List.getElem?_eq_none_iff.mp h2), List.drop_eq_getElem_cons j, e1]
      exact ⟨p.2, rfl, by simp, by simp⟩
    | some q =>
      obtain ⟨k, e⟩ := List.getElem?_eq_some_iff.mp h2
      rw [drop_one, drop_one, h1, h2] at hne
      have hpq : p ≠ q := fun z => hne (by rw [z])
      rw [List.drop_eq_getElem_cons j, List.drop_eq_getElem_cons k, e1, e, limitsIn, if_neg hpq]
      refine ⟨_, rfl, ?_, ?_⟩
      · simp only [List.cons_append, List.nil_append, List.mem_cons, List.not_mem_nil, or_false]
        omega
      · intro y hy
        simp only [List.cons_append, List.nil_append, List.mem_cons, List.not_mem_nil, or_false] at hy
        omega
theorem take_next {a b : Br} {i : Nat} (h : a.take i = b.take i) (he : (a.drop i).take 1 = (b.drop i).take 1) : a.take (i + 1) = b.take (i + 1) := by
  rw [List.take_add, List.take_add, h, he]
theorem take_full {a b : Br} {i : Nat} (h : a.take i = b.take i) (h1 : a.length ≤ i) (h2 : b.length ≤ i) : a = b := by
  rw [List.take_of_length_le h1, List.take_of_length_le h2] at h
  exact h
theorem limits_short (a b : Br) : limitsIn a b = [] ∨ ∃ m, limitsIn a b = [m] := by
  induction a generalizing b with
  | nil => cases b with
    | nil => exact .inl rfl
    | cons y ys => exact .inr ⟨_, rfl⟩
  | cons x xs ih => cases b with
    | nil => exact .inr ⟨_, rfl⟩
    | cons y ys =>
      rw [limitsIn]
      by_cases h : x = y
      · rw [if_pos h]; exact ih ys
      · rw [if_neg h]; exact .inr ⟨_, rfl⟩
theorem cut_enc {a : Br} {i : Nat} : cutD (a.map encP) (some (i : Int)) (some ((i : Int) + 1)) = ((a.drop i).take 1).map encP := by
  rw [cut_at, List.map_take, List.map_drop]
def sharedIn (s t : Br × Int) : Int := (limitsIn s.1 t.1).foldl min (min s.2 t.2)
theorem shared_min (s t : Br × Int) : sharedIn s t ∈ s.2 :: t.2 :: limitsIn s.1 t.1 ∧ ∀ y ∈ s.2 :: t.2 :: limitsIn s.1 t.1, sharedIn s t ≤ y := by
  unfold sharedIn
  rcases limits_short s.1 t.1 with e | ⟨m, e⟩ <;> rw [e]
  · constructor
    · simp only [List.foldl_nil, List.mem_cons, List.not_mem_nil, or_false]; omega
    · intro y hy
      simp only [List.mem_cons, List.not_mem_nil, or_false] at hy
      simp only [List.foldl_nil]
      omega
  · constructor
    · simp only [List.foldl_cons, List.foldl_nil, List.mem_cons, List.not_mem_nil, or_false]; omega
    · intro y hy
      simp only [List.mem_cons, List.not_mem_nil, or_false] at hy
      simp only [List.foldl_cons, List.foldl_nil]
      omega
/-! ### branches that grow -/
def chainR : Br → Bool
  | p :: q :: r => (decide (p.1 < q.1) && decide (p.2 ≤ q.2)) && chainR (q :: r)
  | _ => true
theorem chainR_eq : ∀ b : Br, (List.zipWith (fun p q : Int × Int => decide (p.1 < q.1) && decide (p.2 ≤ q.2)) b (b.drop 1)).all id = chainR b
  | [] => rfl
  | [p] => rfl
  | p :: q :: r => by
    have ih := chainR_eq (q :: r)
    show ((decide (p.1 < q.1) && decide (p.2 ≤ q.2)) && (List.zipWith _ (q :: r) ((q :: r).drop 1)).all id) = _
    rw [ih]
    rfl
theorem chainR_snoc : ∀ {b : Br} {l x : Int × Int}, b.getLast? = some l → chainR b = true → l.1 < x.1 → l.2 ≤ x.2 → chainR (b ++ [x]) = true
  | [], _, _, h, _, _, _ => by cases h
  | [p], l, x, h, _, h1, h2 => by
    have e : p = l := by simpa using h
    subst e
    show ((decide (p.1 < x.1) && decide (p.2 ≤ x.2)) && true) = true
    rw [decide_eq_true h1, decide_eq_true h2]
    rfl
  | p :: q :: r, l, x, h, hc, h1, h2 => by
    have hc' : ((decide (p.1 < q.1) && decide (p.2 ≤ q.2)) && chainR (q :: r)) = true := hc
    rw [Bool.and_eq_true] at hc'
    have h' : (q :: r).getLast? = some l := by rw [List.getLast?_cons_cons] at h; exact h
    have ih := chainR_snoc (b := q :: r) h' hc'.2 h1 h2
    show ((decide (p.1 < q.1) && decide (p.2 ≤ q.2)) && chainR (q :: r ++ [x])) = true
    rw [hc'.1, ih]
    rfl
structure Gr (n : Nat) (B : Int) (b : Br) : Prop where
  ok : BrOk b
  len : b.length ≤ n
  bnd : ∀ p ∈ b, p.1 ≤ B ∧ p.2 ≤ B
theorem gr_zero : Gr 1 0 [(0, 0)] := ⟨⟨by decide, by decide, fun p hp => by
  rw [List.mem_singleton.mp hp]
  decide, rfl, rfl⟩, by decide, fun p hp => by
  rw [List.mem_singleton.mp hp]
  decide⟩
theorem Gr.mono {n m : Nat} {B C : Int} {b : Br} (h : Gr n B b) (h1 : n ≤ m) (h2 : B ≤ C) : Gr m C b := ⟨h.ok, Nat.le_trans h.len h1, fun p hp => ⟨Int.le_trans (h.bnd p hp).1 h2, Int.le_trans (h.bnd p hp).2 h2⟩⟩
theorem gr_step {n : Nat} {B : Int} {b : Br} {l : Int × Int} {r s : Int} (h : Gr n B b) (hl : b.getLast? = some l) (hn : n + 1 ≤ 20) (hB : B + 3 ≤ 1000000000000) (r0 : 0 ≤ r) (r1 : r < 3) (s0 : 0 ≤ s) (s1 : s < 4) :
    Gr (n + 1) (B + 3) (b ++ [(l.1 + 1 + r, l.2 + s)]) := by
  have hlm : l ∈ b := List.mem_of_getLast? hl
  obtain ⟨b1, b2⟩ := h.bnd l hlm
  obtain ⟨g1, g2, g3, g4⟩ := h.ok.rng l hlm
  have hp := h.ok.pos
  have hlen := h.len
  refine ⟨⟨by simp, by simp; omega, fun p hp => ?_, ?_, ?_⟩, by simp; omega, fun p hp => ?_⟩
  · rcases List.mem_append.mp hp with hp | hp
    · exact h.ok.rng p hp
    · rw [List.mem_singleton.mp hp]
      refine ⟨?_, ?_, ?_, ?_⟩ <;> dsimp only <;> omega
  · rw [List.head?_append, h.ok.head]
    rfl
  · rw [chainR_eq]
    refine chainR_snoc hl (by rw [← chainR_eq]; exact h.ok.chain) ?_ ?_ <;> dsimp only <;> omega
  · rcases List.mem_append.mp hp with hp | hp
    · have := h.bnd p hp
      omega
    · rw [List.mem_singleton.mp hp]
      constructor <;> dsimp only <;> omega
theorem encP_inj {a b : Int × Int} (h : encP a = encP b) : a = b := by
  unfold encP at h
  injection h with h
  injection h with h1 h2
  injection h2 with h2 h3
  injection h1 with h1
  injection h2 with h2
  exact Prod.ext h1 h2
theorem map_encP_inj : ∀ {a b : Br}, a.map encP = b.map encP → a = b
  | [], [], _ => rfl
  | [], _ :: _, h => by cases h
  | _ :: _, [], h => by cases h
  | x :: xs, y :: ys, h => by
    rw [List.map_cons, List.map_cons] at h
    injection h with h1 h2
    rw [encP_inj h1, map_encP_inj h2]
theorem encB_inj {a b : Br} (h : encB a = encB b) : a = b := by
  injection h with h
  exact map_encP_inj h
/-- a drawn stand -/
structure Dr (s : Br × Int) : Prop where
  ok : StOk s
  gr : Gr 5 12 s.1
  small : 0 ≤ s.2 ∧ s.2 ≤ 16
def judgeW (s t : Br × Int) : Str := if s.2 = sharedIn s t ∧ t.2 = sharedIn s t then "alike" else if s.2 = sharedIn s t then "behind" else if t.2 = sharedIn s t then "ahead" else "parted"
def laterS (s t : Br × Int) : Bool := match s.1.getLast?, t.1.getLast? with
  | some p, some q => if p.1 = q.1 then decide (t.2 < s.2) else decide (q.1 < p.1)
  | _, _ => false
end K95
end
section
set_option Elab.async false
set_option linter.all false
set_option maxRecDepth 100000
set_option maxHeartbeats 2000000
/-! The law's own words about stands, and that they go with the program's. -/
namespace K95
open PySem PySem.Spec PyProof.Rows L2 Evl DL
/-- the pair of the number at a unit -/
def lastUp (b : Br) (i : Int) : Int × Int := (b.filter fun x => decide (x.2 ≤ i)).getLast?.getD (0, 0)
def under (s : Br × Int) : Br := (List.range s.2.toNat).map fun i : Nat => lastUp s.1 (i : Int)
theorem under_len (s : Br × Int) : (under s).length = s.2.toNat := by unfold under; rw [List.length_map, List.length_range]
theorem up_ne {b : Br} (h : BrOk b) {i : Int} (hi : 0 ≤ i) : ∃ c, b.filter (fun x => decide (x.2 ≤ i)) = c ++ [lastUp b i] := by
  have hm : (0, 0) ∈ b := List.mem_of_mem_head? h.head
  have hf : (0, 0) ∈ b.filter (fun x => decide (x.2 ≤ i)) := List.mem_filter.mpr ⟨hm, by simpa using hi⟩
  have hne : b.filter (fun x => decide (x.2 ≤ i)) ≠ [] := List.ne_nil_of_mem hf
  refine ⟨(b.filter (fun x => decide (x.2 ≤ i))).dropLast, ?_⟩
  unfold lastUp
  rw [List.getLast?_eq_some_getLast hne, Option.getD_some, List.dropLast_concat_getLast]
/-- begins do not fall -/
theorem mono_of : ∀ {b : Br}, chainR b = true → ∀ {i j : Nat} {p q : Int × Int}, i ≤ j → b[i]? = some p → b[j]? = some q → p.2 ≤ q.2
  | [], _, i, j, p, q, _, h, _ => by cases h
  | [x], _, i, j, p, q, hij, hi, hj => by
    have h1 := (List.getElem?_eq_some_iff.mp hi).1
    have h2 := (List.getElem?_eq_some_iff.mp hj).1
    simp only [List.length_singleton] at h1 h2
    have e1 : i = 0 := by omega
    have e2 : j = 0 := by omega
    subst e1 e2
    rw [hi] at hj
    cases hj
    exact Int.le_refl _
  | x :: y :: r, hc, i, j, p, q, hij, hi, hj => by
    have hc' : ((decide (x.1 < y.1) && decide (x.2 ≤ y.2)) && chainR (y :: r)) = true := hc
    simp only [Bool.and_eq_true, decide_eq_true_eq] at hc'
    match i, j, hij with
    | 0, 0, _ =>
      rw [hi] at hj
      cases hj
      exact Int.le_refl _
    | 0, j + 1, _ =>
      have e : x = p := by simpa using hi
      subst e
      have h1 := mono_of hc'.2 (i := 0) (j := j) (p := y) (q := q) (Nat.zero_le _) rfl (by simpa using hj)
      omega
    | i + 1, j + 1, hij => exact mono_of hc'.2 (i := i) (j := j) (by omega) (by simpa using hi) (by simpa using hj)
theorem filter_short {b : Br} {i : Nat} {x : Int} (h : ∀ j p, i ≤ j → b[j]? = some p → x < p.2) : b.filter (fun p => decide (p.2 ≤ x)) = (b.take i).filter (fun p => decide (p.2 ≤ x)) := by
  have e : b = b.take i ++ b.drop i := (List.take_append_drop i b).symm
  have hd : (b.drop i).filter (fun p => decide (p.2 ≤ x)) = [] := by
    rw [List.filter_eq_nil_iff]
    intro p hp
    obtain ⟨k, hk⟩ := List.getElem?_of_mem hp
    rw [List.getElem?_drop] at hk
    have := h (i + k) p (by omega) hk
    simp
    omega
  have e2 := congrArg (List.filter fun p : Int × Int => decide (p.2 ≤ x)) e
  rw [List.filter_append, hd, List.append_nil] at e2
  exact e2
theorem begin_le {b : Br} (h : BrOk b) {i : Nat} {m : Int} (hm : ∀ y ∈ beginAt b i, m ≤ y) : ∀ j p, i ≤ j → b[j]? = some p → m ≤ p.2 := by
  intro j p hij hj
  have hc : chainR b = true := by rw [← chainR_eq]; exact h.chain
  have hjl := (List.getElem?_eq_some_iff.mp hj).1
  have hi : b[i]? = some b[i] := List.getElem?_eq_getElem (by omega)
  have h1 := mono_of hc hij hi hj
  have h2 := hm b[i].2 (by unfold beginAt; rw [hi]; simp)
  omega
/-- up to what two branches share, the numbers at the units are alike -/
theorem lastUp_eq {a b : Br} (ha : BrOk a) (hb : BrOk b) {i : Nat} {m x : Int} (ht : a.take i = b.take i) (hm : ∀ y ∈ beginAt a i ++ beginAt b i, m ≤ y) (hx : x < m) : lastUp a x = lastUp b x := by
  unfold lastUp
  rw [filter_short (i := i) fun j p hij hj => Int.lt_of_lt_of_le hx (begin_le ha (fun y hy => hm y (List.mem_append_left _ hy)) j p hij hj),
    filter_short (b := b) (i := i) fun j p hij hj => Int.lt_of_lt_of_le hx (begin_le hb (fun y hy => hm y (List.mem_append_right _ hy)) j p hij hj), ht]
theorem under_take {s t : Br × Int} {n : Nat} (hn : n ≤ s.2.toNat) (hn2 : n ≤ t.2.toNat) (h : ∀ i < n, lastUp s.1 (i : Int) = lastUp t.1 (i : Int)) : (under s).take n = (under t).take n := by
  unfold under
  rw [← List.map_take, ← List.map_take, List.take_range, List.take_range, Nat.min_eq_left hn, Nat.min_eq_left hn2]
  exact List.map_congr_left fun i hi => h i (List.mem_range.mp hi)
theorem shared_le {s t : Br × Int} : sharedIn s t ≤ s.2 ∧ sharedIn s t ≤ t.2 := ⟨(shared_min s t).2 _ (by simp), (shared_min s t).2 _ (by simp)⟩
theorem limits_nonneg {a b : Br} (ha : BrOk a) (hb : BrOk b) : ∀ m ∈ limitsIn a b, 0 ≤ m := by
  have key : ∀ {a b : Br}, (∀ p ∈ a, 0 ≤ p.2) → (∀ p ∈ b, 0 ≤ p.2) → ∀ m ∈ limitsIn a b, 0 ≤ m := by
    intro a
    induction a with
    | nil =>
      intro b _ hb m hm
      cases b with
      | nil => cases hm
      | cons y ys =>
        rw [limitsIn, List.mem_singleton] at hm
        rw [hm]
        exact hb y (by simp)
    | cons x xs ih =>
      intro b ha hb m hm
      cases b with
      | nil =>
        rw [limitsIn, List.mem_singleton] at hm
        rw [hm]
        exact ha x (by simp)
      | cons y ys =>
        rw [limitsIn] at hm
        by_cases h : x = y
        · rw [if_pos h] at hm
          exact ih (fun p hp => ha p (List.mem_cons_of_mem _ hp)) (fun p hp => hb p (List.mem_cons_of_mem _ hp)) m hm
        · rw [if_neg h, List.mem_singleton] at hm
          rw [hm]
          have h1 := ha x (by simp)
          have h2 := hb y (by simp)
          omega
  exact key (fun p hp => (ha.rng p hp).2.2.1) (fun p hp => (hb.rng p hp).2.2.1)
theorem shared_nonneg {s t : Br × Int} (hs : BrOk s.1) (ht : BrOk t.1) (h1 : 0 ≤ s.2) (h2 : 0 ≤ t.2) : 0 ≤ sharedIn s t := by
  have h := (shared_min s t).1
  rcases List.mem_cons.mp h with e | h
  · rw [e]; exact h1
  · rcases List.mem_cons.mp h with e | h
    · rw [e]; exact h2
    · exact limits_nonneg hs ht _ h
/-- left[:limit] == right[:limit] -/
theorem rows_eq {s t : Br × Int} (hs : BrOk s.1) (ht : BrOk t.1) (h1 : 0 ≤ s.2) (h2 : 0 ≤ t.2) : (under s).take (sharedIn s t).toNat = (under t).take (sharedIn s t).toNat := by
  have hle := shared_le (s := s) (t := t)
  have h0 := shared_nonneg hs ht h1 h2
  refine under_take (by omega) (by omega) fun i hi => ?_
  by_cases he : s.1 = t.1
  · rw [he]
  -- the first place at which they differ
  have ex : ∃ k, s.1.take k = t.1.take k ∧ (s.1.drop k).take 1 ≠ (t.1.drop k).take 1 := by
    apply Classical.byContradiction
    intro hno
    have all : ∀ k, s.1.take k = t.1.take k := by
      intro k
      induction k with
      | zero => rfl
      | succ k ih => exact take_next ih (Classical.byContradiction fun z => hno ⟨k, ih, z⟩)
    exact he (take_full (i := max s.1.length t.1.length) (all _) (by omega) (by omega))
  obtain ⟨k, hk, hne⟩ := ex
  obtain ⟨m, e1, e2, e3⟩ := limits_at hk hne
  have hm : sharedIn s t ≤ m := (shared_min s t).2 m (by rw [e1]; simp)
  exact lastUp_eq hs ht hk e3 (by omega)
theorem min_cons {x : Int} {ns : List Int} {m : Int} (h1 : m ∈ ns) (h2 : ∀ y ∈ ns, m ≤ y) : min x m ∈ x :: ns ∧ ∀ y ∈ x :: ns, min x m ≤ y := by
  constructor
  · by_cases h : x ≤ m
    · rw [Int.min_eq_left h]; simp
    · rw [Int.min_eq_right (by omega)]; exact List.mem_cons_of_mem _ h1
  · intro y hy
    rcases List.mem_cons.mp hy with rfl | hy
    · omega
    · have := h2 y hy
      omega
def sndD : PyData → PyData
  | .tuple [_, y] => y
  | _ => .none
end K95
end
section
set_option Elab.async false
set_option linter.all false
set_option maxRecDepth 100000
set_option maxHeartbeats 2000000
/-! Cuts, judgements, later stands: what the law asks of them. -/
namespace K95
open PySem PySem.Spec PyProof.Rows L2 Evl DL
theorem chainR_tail {x : Int × Int} {b : Br} (h : chainR (x :: b) = true) : chainR b = true := by
  cases b with
  | nil => rfl
  | cons y r =>
    have h' : ((decide (x.1 < y.1) && decide (x.2 ≤ y.2)) && chainR (y :: r)) = true := h
    rw [Bool.and_eq_true] at h'
    exact h'.2
theorem chainR_ge : ∀ {x : Int × Int} {b : Br}, chainR (x :: b) = true → ∀ p ∈ b, x.2 ≤ p.2
  | _, [], _, _, h => nomatch h
  | x, y :: r, h, p, hp => by
    have h' : ((decide (x.1 < y.1) && decide (x.2 ≤ y.2)) && chainR (y :: r)) = true := h
    simp only [Bool.and_eq_true, decide_eq_true_eq] at h'
    rcases List.mem_cons.mp hp with rfl | hp
    · exact h'.1.2
    · have := chainR_ge h'.2 p hp
      omega
theorem chainR_gt : ∀ {x : Int × Int} {b : Br}, chainR (x :: b) = true → ∀ p ∈ b, x.1 < p.1
  | _, [], _, _, h => nomatch h
  | x, y :: r, h, p, hp => by
    have h' : ((decide (x.1 < y.1) && decide (x.2 ≤ y.2)) && chainR (y :: r)) = true := h
    simp only [Bool.and_eq_true, decide_eq_true_eq] at h'
    rcases List.mem_cons.mp hp with rfl | hp
    · exact h'.1.1
    · have := chainR_gt h'.2 p hp
      omega
theorem up_gt {x : Int × Int} {b : Br} {p : Int} (h : chainR (x :: b) = true) (hx : p < x.2) : upTo (x :: b) p = [] := by
  unfold upTo
  rw [List.filter_eq_nil_iff]
  intro q hq
  rcases List.mem_cons.mp hq with rfl | hq
  · simp; omega
  · have := chainR_ge h q hq
    simp; omega
theorem up_le {x : Int × Int} {b : Br} {p : Int} (hx : x.2 ≤ p) : upTo (x :: b) p = x :: upTo b p := by
  unfold upTo
  rw [List.filter_cons_of_pos (by simpa using hx)]
theorem up_take : ∀ {b : Br} (p : Int), chainR b = true → ∃ k, upTo b p = b.take k
  | [], p, _ => ⟨0, rfl⟩
  | x :: b, p, h => by
    by_cases hx : x.2 ≤ p
    · obtain ⟨k, e⟩ := up_take p (chainR_tail h)
      exact ⟨k + 1, by rw [up_le hx, e]; rfl⟩
    · exact ⟨0, by rw [up_gt h (by omega)]; rfl⟩
theorem chainR_take : ∀ {b : Br} (k : Nat), chainR b = true → chainR (b.take k) = true
  | _, 0, _ => by rw [List.take_zero]; rfl
  | [], k + 1, _ => rfl
  | [x], k + 1, _ => by rw [List.take_succ_cons, List.take_nil]; rfl
  | x :: y :: r, 1, _ => rfl
  | x :: y :: r, k + 2, h => by
    have h' : ((decide (x.1 < y.1) && decide (x.2 ≤ y.2)) && chainR (y :: r)) = true := h
    rw [Bool.and_eq_true] at h'
    have ih := chainR_take (b := y :: r) (k + 1) h'.2
    show ((decide (x.1 < y.1) && decide (x.2 ≤ y.2)) && chainR (y :: r.take k)) = true
    rw [h'.1]
    exact ih
theorem BrOk.ch {b : Br} (h : BrOk b) : chainR b = true := by rw [← chainR_eq]; exact h.chain
theorem brOk_up {b : Br} (h : BrOk b) {p : Int} (hp : 0 ≤ p) : BrOk (upTo b p) := by
  obtain ⟨k, e⟩ := up_take p h.ch
  obtain ⟨c, hc⟩ := up_ne h hp
  have hc' : upTo b p = c ++ [lastUp b p] := hc
  refine ⟨by rw [hc']; simp, by rw [e, List.length_take]; have := h.len; omega, fun q hq => h.rng q (List.mem_filter.mp hq).1, ?_, by rw [chainR_eq, e]; exact chainR_take k h.ch⟩
  cases b with
  | nil => cases h.head
  | cons x r =>
    have hx : x = (0, 0) := by have := h.head; simpa using this
    rw [hx, up_le (by simpa using hp)]
    rfl
theorem stOk_up {s : Br × Int} (h : StOk s) {p : Int} (hp : 0 ≤ p) (hps : p ≤ s.2) : StOk (upTo s.1 p, p) :=
  ⟨brOk_up h.br hp, fun q hq => by
    have := (List.mem_filter.mp (List.mem_of_getLast? hq)).2
    simpa using this, by have := h.place; dsimp only; omega⟩
theorem limits_ge : ∀ {a b : Br} {x : Int}, (∀ p ∈ a, x ≤ p.2) → (∀ p ∈ b, x ≤ p.2) → ∀ m ∈ limitsIn a b, x ≤ m
  | [], [], _, _, _, _, h => nomatch h
  | x :: xs, [], z, ha, _, m, h => by
    rw [limitsIn, List.mem_singleton] at h
    rw [h]; exact ha x (by simp)
  | [], y :: ys, z, _, hb, m, h => by
    rw [limitsIn, List.mem_singleton] at h
    rw [h]; exact hb y (by simp)
  | x :: xs, y :: ys, z, ha, hb, m, h => by
    rw [limitsIn] at h
    by_cases e : x = y
    · rw [if_pos e] at h
      exact limits_ge (fun p hp => ha p (List.mem_cons_of_mem _ hp)) (fun p hp => hb p (List.mem_cons_of_mem _ hp)) m h
    · rw [if_neg e, List.mem_singleton] at h
      have h1 := ha x (by simp)
      have h2 := hb y (by simp)
      omega
/-- what two cut branches share: the limits up to the cut -/
theorem limits_up : ∀ {a b : Br} (p : Int), chainR a = true → chainR b = true → limitsIn (upTo a p) (upTo b p) = (limitsIn a b).filter fun m => decide (m ≤ p)
  | [], [], p, _, _ => rfl
  | x :: xs, [], p, ha, _ => by
    by_cases hx : x.2 ≤ p
    · rw [up_le hx]
      show [x.2] = List.filter _ [x.2]
      rw [List.filter_cons_of_pos (by simpa using hx)]
      rfl
    · rw [up_gt ha (by omega)]
      show [] = List.filter _ [x.2]
      rw [List.filter_cons_of_neg (by simpa using hx)]
      rfl
  | [], y :: ys, p, _, hb => by
    by_cases hy : y.2 ≤ p
    · rw [up_le hy]
      show [y.2] = List.filter _ [y.2]
      rw [List.filter_cons_of_pos (by simpa using hy)]
      rfl
    · rw [up_gt hb (by omega)]
      show [] = List.filter _ [y.2]
      rw [List.filter_cons_of_neg (by simpa using hy)]
      rfl
  | x :: xs, y :: ys, p, ha, hb => by
    by_cases e : x = y
    · subst e
      rw [show limitsIn (x :: xs) (x :: ys) = limitsIn xs ys by rw [limitsIn, if_pos rfl]]
      by_cases hx : x.2 ≤ p
      · rw [up_le hx, up_le hx, show limitsIn (x :: upTo xs p) (x :: upTo ys p) = limitsIn (upTo xs p) (upTo ys p) by rw [limitsIn, if_pos rfl]]
        exact limits_up p (chainR_tail ha) (chainR_tail hb)
      · rw [up_gt ha (by omega), up_gt hb (by omega)]
        have hn : (limitsIn xs ys).filter (fun m => decide (m ≤ p)) = [] := by
          rw [List.filter_eq_nil_iff]
          intro m hm
          have := limits_ge (chainR_ge ha) (chainR_ge hb) m hm
          simp; omega
        rw [hn]
        rfl
    · rw [show limitsIn (x :: xs) (y :: ys) = [min x.2 y.2] by rw [limitsIn, if_neg e]]
      by_cases hx : x.2 ≤ p
      · by_cases hy : y.2 ≤ p
        · rw [up_le hx, up_le hy, limitsIn, if_neg e, List.filter_cons_of_pos (by simp; omega)]
          rfl
        · rw [up_le hx, up_gt hb (by omega), limitsIn, List.filter_cons_of_pos (by simp; omega), Int.min_eq_left (by omega)]
          rfl
      · by_cases hy : y.2 ≤ p
        · rw [up_gt ha (by omega), up_le hy, limitsIn, List.filter_cons_of_pos (by simp; omega), Int.min_eq_right (by omega)]
          rfl
        · rw [up_gt ha (by omega), up_gt hb (by omega), List.filter_cons_of_neg (by simp; omega)]
          rfl
theorem limits_own : ∀ {a : Br} (p : Int), chainR a = true → ∀ m ∈ limitsIn (upTo a p) a, p ≤ m
  | [], p, _, m, h => nomatch h
  | x :: xs, p, ha, m, h => by
    by_cases hx : x.2 ≤ p
    · rw [up_le hx, limitsIn, if_pos rfl] at h
      exact limits_own p (chainR_tail ha) m h
    · rw [up_gt ha (by omega), limitsIn, List.mem_singleton] at h
      omega
theorem shared_iff {s t : Br × Int} {p : Int} : p ≤ sharedIn s t ↔ p ≤ s.2 ∧ p ≤ t.2 ∧ ∀ m ∈ limitsIn s.1 t.1, p ≤ m := by
  have h := shared_min s t
  constructor
  · intro hp
    exact ⟨Int.le_trans hp (h.2 _ (by simp)), Int.le_trans hp (h.2 _ (by simp)), fun m hm => Int.le_trans hp (h.2 m (by simp [hm]))⟩
  · rintro ⟨h1, h2, h3⟩
    rcases List.mem_cons.mp h.1 with e | h'
    · omega
    · rcases List.mem_cons.mp h' with e | h'
      · omega
      · exact h3 _ h'
/-- cut at a place up to both: alike there exactly up to the shared place -/
theorem cut_shared {s t : Br × Int} (hs : StOk s) (ht : StOk t) {p : Int} (h1 : p ≤ s.2) (h2 : p ≤ t.2) : sharedIn (upTo s.1 p, p) (upTo t.1 p, p) = p ↔ p ≤ sharedIn s t := by
  have hle := shared_le (s := (upTo s.1 p, p)) (t := (upTo t.1 p, p))
  have e1 : sharedIn (upTo s.1 p, p) (upTo t.1 p, p) = p ↔ p ≤ sharedIn (upTo s.1 p, p) (upTo t.1 p, p) := by
    constructor
    · intro h; omega
    · intro h
      have := hle.1
      omega
  rw [e1, shared_iff, shared_iff]
  dsimp only
  rw [limits_up p hs.br.ch ht.br.ch]
  constructor
  · rintro ⟨_, _, h⟩
    refine ⟨h1, h2, fun m hm => ?_⟩
    by_cases hmp : m ≤ p
    · exact h m (List.mem_filter.mpr ⟨hm, by simpa using hmp⟩)
    · omega
  · rintro ⟨_, _, h⟩
    exact ⟨Int.le_refl _, Int.le_refl _, fun m hm => h m (List.mem_filter.mp hm).1⟩
theorem cut_own {s : Br × Int} (hs : StOk s) {p : Int} (h1 : p ≤ s.2) : sharedIn (upTo s.1 p, p) s = p := by
  have hle := (shared_le (s := (upTo s.1 p, p)) (t := s)).1
  have h : p ≤ sharedIn (upTo s.1 p, p) s := shared_iff.mpr ⟨Int.le_refl _, h1, limits_own p hs.br.ch⟩
  dsimp only at hle
  omega
theorem cut_judge {s : Br × Int} (hs : StOk s) {p : Int} (h1 : p ≤ s.2) : judgeW (upTo s.1 p, p) s = "alike" ∨ judgeW (upTo s.1 p, p) s = "behind" := by
  unfold judgeW
  rw [cut_own hs h1]
  by_cases h : s.2 = p
  · exact .inl (if_pos ⟨rfl, h⟩)
  · refine .inr ?_
    rw [if_neg (fun z => h z.2)]
    exact if_pos rfl
theorem later_asym (s t : Br × Int) (h : laterS s t = true) : laterS t s = false := by
  unfold laterS at h ⊢
  cases e1 : s.1.getLast? with
  | none => rw [e1] at h; cases h
  | some a =>
    cases e2 : t.1.getLast? with
    | none => rw [e1, e2] at h
    | some b =>
      rw [e1, e2] at h
      dsimp only at h ⊢
      by_cases e : a.1 = b.1
      · rw [if_pos e] at h
        rw [if_pos e.symm]
        simp only [decide_eq_true_eq] at h
        simp; omega
      · rw [if_neg e] at h
        rw [if_neg (Ne.symm e)]
        simp only [decide_eq_true_eq] at h
        simp; omega
end K95
end
section
set_option Elab.async false
set_option linter.all false
set_option maxRecDepth 100000
set_option maxHeartbeats 2000000
/-! Values near a stand: which are stands. -/
namespace K95
open PySem PySem.Spec PyProof.Rows L2 Evl DL
def odd1 (b : Br) (p : Int) : List PyData := [.none, .tuple [], .tuple [encB b], .list [encB b, .int p], .tuple [encB b, .none], .tuple [encB b, .bool true], .tuple [encB b, .int (-1)], .tuple [encB b, .int ((10 : Int) ^ (12 : Int).toNat + 1)]]
def odd2 (b : Br) (l : Int × Int) (p : Int) : List PyData := [.tuple [encB b, .int p, .int 0], .tuple [.list (b.map encP), .int p], .tuple [.tuple (b.map encP ++ [encP l]), .int p], .tuple [.tuple (cutD (b.map encP) (some 1) none), .int p], .tuple [.tuple [], .int 0]]
def odd3 (b : Br) (l : Int × Int) (p : Int) : List PyData := [.tuple [.tuple (b.map encP ++ [.tuple [.int (l.1 + 1), .int (p + 1)]]), .int p], .tuple [.tuple [.tuple [.int 0, .int 1]], .int 1], .tuple [.tuple [.tuple [.int 1, .int 0]], .int 1], .tuple [.tuple [.tuple [.int 0, .int 0, .int 0]], .int 1]]
def odd4 (b : Br) (l : Int × Int) (p : Int) : List PyData := [.tuple [.tuple (b.map encP ++ [.tuple [.int (l.1 + 1), .int (l.2 - 1)]]), .int p], .tuple [.tuple [.tuple [.bool false, .int 0]], .int 0], .tuple [.tuple [.tuple [.int 0, .int 0], .tuple [.int 2, .int 0], .tuple [.int 2, .int 1]], .int 3]]
theorem chainR_last : ∀ {b : Br} {l x : Int × Int}, b.getLast? = some l → chainR (b ++ [x]) = true → l.1 < x.1 ∧ l.2 ≤ x.2
  | [], _, _, h, _ => by cases h
  | [p], l, x, h, hc => by
    have e : p = l := by simpa using h
    subst e
    have hc' : ((decide (p.1 < x.1) && decide (p.2 ≤ x.2)) && true) = true := hc
    simpa using hc'
  | p :: q :: r, l, x, h, hc => by
    have h' : (q :: r).getLast? = some l := by rw [List.getLast?_cons_cons] at h; exact h
    exact chainR_last (b := q :: r) h' (chainR_tail hc)
theorem stand_no_br {a p : PyData} (h : isBranch a = false) : isStand (.tuple [a, p]) = false := by
  show (isBranch a && _) = false
  rw [h]
  rfl
theorem stand_no_in {a p : PyData} (h : isWithin p (lastP a) 1000000000000 = false) : isStand (.tuple [a, p]) = false := by
  show (_ && isWithin p (lastP a) 1000000000000) = false
  rw [h, Bool.and_false]
theorem br_no {b : Br} (h : ¬ BrOk b) : isBranch (encB b) = false := by
  cases e : isBranch (encB b) with
  | false => rfl
  | true =>
    obtain ⟨b', e1, e2⟩ := isBranch_iff.mp e
    rw [encB_inj e1] at h
    exact absurd e2 h
theorem enc_app {b : Br} {x : Int × Int} : PyData.tuple (b.map encP ++ [encP x]) = encB (b ++ [x]) := by
  show _ = PyData.tuple ((b ++ [x]).map encP)
  rw [List.map_append]
  rfl
theorem odd_all {b : Br} {l : Int × Int} {p : Int} (hs : StOk (b, p)) (hl : b.getLast? = some l) : ∀ d ∈ odd1 b p ++ odd2 b l p ++ odd3 b l p ++ odd4 b l p, isStand d = false := by
  have hlm : l ∈ b := List.mem_of_getLast? hl
  obtain ⟨g1, g2, g3, g4⟩ := hs.br.rng l hlm
  have hp : l.2 ≤ p := hs.last l hl
  intro d hd
  simp only [odd1, odd2, odd3, odd4, List.mem_append, List.mem_cons, List.not_mem_nil, or_false] at hd
  rcases hd with (((h | h | h | h | h | h | h | h) | h | h | h | h | h) | h | h | h | h) | h | h | h <;> subst h
  · rfl
  · rfl
  · rfl
  · rfl
  · exact stand_no_in rfl
  · exact stand_no_in rfl
  · refine stand_no_in ?_
    rw [lastP_enc hl]
    show (decide (l.2 ≤ -1) && _) = false
    rw [decide_eq_false (by omega)]
    rfl
  · refine stand_no_in ?_
    show (_ && decide ((10 : Int) ^ (12 : Int).toNat + 1 ≤ 1000000000000)) = false
    rw [show decide ((10 : Int) ^ (12 : Int).toNat + 1 ≤ 1000000000000) = false by decide +kernel, Bool.and_false]
  · rfl
  · exact stand_no_br rfl
  · rw [enc_app]
    refine stand_no_br (br_no fun h => ?_)
    have := (chainR_last hl h.ch).1
    omega
  · rw [show cutD (b.map encP) (some 1) none = (b.drop 1).map encP by rw [List.map_drop]; exact cut_from (i := 1)]
    refine stand_no_br (br_no (b := b.drop 1) fun h => ?_)
    have hb := hs.br
    cases b with
    | nil => cases hb.head
    | cons x r =>
      have hx : x = (0, 0) := by have := hb.head; simpa using this
      have hr : (r : Br).head? = some (0, 0) := h.head
      have hm : ((0, 0) : Int × Int) ∈ r := List.mem_of_mem_head? hr
      have := chainR_gt hb.ch _ hm
      rw [hx] at this
      omega
  · exact stand_no_br (by decide +kernel)
  · refine stand_no_in ?_
    have e : lastP (.tuple (b.map encP ++ [.tuple [.int (l.1 + 1), .int (p + 1)]])) = p + 1 := by
      show (match (b.map encP ++ [PyData.tuple [.int (l.1 + 1), .int (p + 1)]]).getLast? with | some (.tuple [_, .int y]) => y | _ => 0) = p + 1
      rw [List.getLast?_append]
      rfl
    rw [e]
    show (decide (p + 1 ≤ p) && _) = false
    rw [decide_eq_false (by omega)]
    rfl
  · exact stand_no_br (by decide +kernel)
  · exact stand_no_br (by decide +kernel)
  · exact stand_no_br (by decide +kernel)
  · rw [show PyData.tuple (b.map encP ++ [.tuple [.int (l.1 + 1), .int (l.2 - 1)]]) = encB (b ++ [(l.1 + 1, l.2 - 1)]) from enc_app (x := (l.1 + 1, l.2 - 1))]
    refine stand_no_br (br_no fun h => ?_)
    have := (chainR_last hl h.ch).2
    dsimp only at this
    omega
  · exact stand_no_br (by decide +kernel)
  · exact stand_no_br (by decide +kernel)
def fineL (b : Br) (l : Int × Int) (p : Int) : List PyData := [.tuple [.tuple (b.map encP ++ [.tuple [.int (l.1 + 1), .int p]]), .int p], .tuple [encB b, .int ((10 : Int) ^ (12 : Int).toNat)], .tuple [encB b, .int l.2], .tuple [.tuple [.tuple [.int 0, .int 0], .tuple [.int 5, .int 0]], .int 0]]
theorem fine_all {b : Br} {l : Int × Int} {p : Int} (hs : StOk (b, p)) (hg : Gr 5 12 b) (hp2 : p ≤ 16) (hl : b.getLast? = some l) : ∀ d ∈ fineL b l p, isStand d = true := by
  have hlm : l ∈ b := List.mem_of_getLast? hl
  obtain ⟨g1, g2, g3, g4⟩ := hs.br.rng l hlm
  have hp : l.2 ≤ p := hs.last l hl
  have hb := hg.bnd l hlm
  have hlen := hg.len
  intro d hd
  simp only [fineL, List.mem_cons, List.not_mem_nil, or_false] at hd
  rcases hd with h | h | h | h <;> subst h
  · rw [show PyData.tuple (b.map encP ++ [.tuple [.int (l.1 + 1), .int p]]) = encB (b ++ [(l.1 + 1, p)]) from enc_app (x := (l.1 + 1, p))]
    refine isStand_iff.mpr ⟨(b ++ [(l.1 + 1, p)], p), rfl, ⟨by simp, by simp; omega, fun q hq => ?_, ?_, ?_⟩, fun q hq => ?_, hs.place⟩
    · rcases List.mem_append.mp hq with hq | hq
      · exact hs.br.rng q hq
      · rw [List.mem_singleton.mp hq]
        refine ⟨?_, ?_, ?_, ?_⟩ <;> dsimp only <;> omega
    · rw [List.head?_append, hs.br.head]
      rfl
    · rw [chainR_eq]
      exact chainR_snoc hl hs.br.ch (by dsimp only; omega) hp
    · simp at hq
      rw [← hq]
      exact Int.le_refl _
  · refine isStand_iff.mpr ⟨(b, 1000000000000), by rw [show (10 : Int) ^ (12 : Int).toNat = 1000000000000 by decide +kernel], hs.br, fun q hq => ?_, Int.le_refl _⟩
    exact (hs.br.rng q (List.mem_of_getLast? hq)).2.2.2
  · refine isStand_iff.mpr ⟨(b, l.2), rfl, hs.br, fun q hq => ?_, g4⟩
    rw [hl] at hq
    cases hq
    exact Int.le_refl _
  · decide +kernel
end K95
end
section
set_option Elab.async false
set_option linter.all false
set_option maxRecDepth 100000
set_option maxHeartbeats 2000000
/-! try with several clauses, some of which give the error a name. -/
namespace DL
open PySem PySem.Spec PyProof.Rows L2
/-- the ends of a suite whose name goes -/
abbrev Gone (D : Ends) (i : Nat) : Ends := { nx := fun σ' H' => D.nx (σ'.set i none) H', rt := D.rt, bk := fun σ' H' => D.bk (σ'.set i none) H', ct := fun σ' H' => D.ct (σ'.set i none) H' }
/-- what the clauses wish of an exception of the body, one after the other -/
def wMix (K : PySem.W.Frag) (Wout : WX) (D : Ends) : List (Value × Option Nat × (Addr → Value → Option Addr → TS)) → WX
  | [] => Wout
  | (c, none, ts) :: r => fun cls d σ H => ∃ b, PySem.W.exmOne K cls c = some b ∧ (b = true → ∀ a, H a = none → ts a cls d D σ H) ∧ (b = false → wMix K Wout D r cls d σ H)
  | (c, some i, ts) :: r => fun cls d σ H => ∃ b, PySem.W.exmOne K cls c = some b ∧ (b = true → ∀ a, H a = none → ts a cls d (Gone D i) (σ.set i (some (.ref a))) H) ∧ (b = false → wMix K Wout D r cls d σ H)
inductive HdsMix (X : Cx) : List ExceptHandler → List (Value × Option Nat × (Addr → Value → Option Addr → TS)) → Prop
  | nil : HdsMix X [] []
  | one {x : Str} {c : Value} {ts : Addr → Value → Option Addr → TS} {b₀ : Stmt} {suite : List Stmt} {np pos' : Pos} {hds : List ExceptHandler} {l : List (Value × Option Nat × (Addr → Value → Option Addr → TS))} (hc : Names X x c)
      (hsu : ∀ (a : Addr) (oe : Obj) (cls : Value) (d : Option Addr) (pn : List (Addr × Obj)), Zc cls d oe → (∃ vs, oe.data = .fields vs) → PSs (X.suite a ((a, oe) :: pn)) (b₀ :: suite) (ts a cls d)) (r : HdsMix X hds l) :
      HdsMix X (.ExceptHandler (some (.Name x np)) none (b₀ :: suite) pos' :: hds) ((c, none, ts) :: l)
  | named {x n : Str} {c : Value} {i : Nat} {ts : Addr → Value → Option Addr → TS} {b₀ : Stmt} {suite : List Stmt} {np pos' : Pos} {hds : List ExceptHandler} {l : List (Value × Option Nat × (Addr → Value → Option Addr → TS))} (hc : Names X x c) (hi : X.N[i]? = some n) (hln : X.env.kindOf n = some .local)
      (hsu : ∀ (a : Addr) (oe : Obj) (cls : Value) (d : Option Addr) (pn : List (Addr × Obj)), Zc cls d oe → (∃ vs, oe.data = .fields vs) → PSs (X.suite a ((a, oe) :: pn)) (b₀ :: suite) (ts a cls d)) (r : HdsMix X hds l) :
      HdsMix X (.ExceptHandler (some (.Name x np)) (some n) (b₀ :: suite) pos' :: hds) ((c, some i, ts) :: l)
/-- an error that a try of X has caught: it stands at a in s, all else as in sI, over the ground B -/
structure Air (X : Cx) (pins : List (Addr × Obj)) (σ : L2.St) (H : Hp) (a : Addr) (cls : Value) (d : Option Addr) (B : Heap) (sI s : Shared) : Prop where
  inv : Inv X pins σ H sI
  gr : ∀ b o, sI.heap.get? b = some o → b ∉ frs X.stack → B.get? b = some o
  up : sI.heap.UpToSlots s.heap
  fly : HandSPX.FlyingZ B (X.env :: X.outer) a (Zc cls d) s.heap
  na : H a = none
  os : s.os = sI.os
  ag : AllBare s.gens
section
variable {X : Cx} {pins : List (Addr × Obj)} {σ : L2.St} {H : Hp} {a : Addr} {cls c : Value} {d : Option Addr} {B : Heap} {sI s : Shared} {E : Value → Shared → Prop} {x : Str} {np : Pos}
theorem Air.kept (w : Air X pins σ H a cls d B sI s) {h' : Heap} (fl : HandSPX.FlyingZ B (X.env :: X.outer) a (Zc cls d) h') (u : s.heap.UpToSlots h') : Air X pins σ H a cls d B sI { s with heap := h' } := ⟨w.inv, w.gr, w.up.trans u, fl, w.na, w.os, w.ag⟩
/-- the state of the except suite -/
theorem Air.in_suite (hf : X.env.frame = some X.env.locals) (w : Air X pins σ H a cls d B sI s) :
    ∃ oe, s.heap.get? a = some oe ∧ Zc cls d oe ∧ (∃ vs, oe.data = .fields vs) ∧ Inv (X.suite a ((a, oe) :: (X.pn ++ pins))) [] σ H s := by
  obtain ⟨oe, vs, e1, e2, e3⟩ := w.fly.there
  have off : ∀ v ∈ (X.env :: X.outer), v.frame ≠ some a := fun v hv z => by
    have hin : a ∈ (X.env :: X.outer).filterMap (·.frame) := List.mem_filterMap.mpr ⟨v, hv, z⟩
    obtain ⟨_, o, eo, hno⟩ := w.fly.2.2.1.mem hin
    have eq : oe = o := Option.some.inj (e1.symm.trans eo)
    exact hno vs (eq ▸ e3)
  refine ⟨oe, e1, e2, ⟨vs, e3⟩, (w.inv.landed w.gr w.fly.1 w.up w.os w.ag).suite e1 e3 w.na (fun z => off X.env (List.mem_cons_self ..) (by rw [hf, z])) fun z => ?_⟩
  obtain ⟨v, hv, q⟩ := List.mem_filterMap.mp z
  exact off v (List.mem_cons_of_mem _ hv) q
/-- a clause's test -/
theorem Air.asks (hf : X.env.frame = some X.env.locals) (w : Air X pins σ H a cls d B sI s) (hc : Names X x c) {b : Bool} (hb : PySem.W.exmOne X.K cls c = some b) {Q : Bool → Shared → Prop} (q : Q b s) :
    wpAny (model X.prog X.w) (X.A.mark (some (.ref a))) (eval (.Name x np) X.env) (fun v s' => wpAny (model X.prog X.w) (X.A.mark (some (.ref a))) (excMatches (.ref a) v) Q E s') E s := by
  obtain ⟨oe, e1, e2, _, J⟩ := w.in_suite hf
  have L : PySem.W.Looks (model X.prog X.w) s.heap (typeOf (.ref a)) cls := fun _ _ _ _ k q => wpAny_typeOf_ref (k _ _ e1) (e2.1.symm ▸ q)
  have fin := (PySem.W.exm_one (M := model X.prog X.w) J.kIn L hb).here (A := X.A.mark (some (.ref a))) (E := E) (s := s) (Q := Q) q
  obtain ⟨g, dbg, m | ⟨m, v, n⟩⟩ := hc
  · exact ld_glob (X := X.suite a ((a, oe) :: (X.pn ++ pins))) J g m fin dbg
  · exact ld_blt (X := X.suite a ((a, oe) :: (X.pn ++ pins))) J g m v fin n dbg
variable {D : Ends} {Wout : WX} {hds : List ExceptHandler} {l : List (Value × Option Nat × (Addr → Value → Option Addr → TS))}
/-- no clause took it: on it goes -/
theorem Air.goes_on (hs : X.stack = X.env :: X.outer) (hf : X.env.frame = some X.env.locals) (w : Air X pins σ H a cls d B sI s) (tk : Takes X Wout) (hw : Wout cls d σ H) : wpAny (model X.prog X.w) X.A (handleBy (.ref a) X.env []) (SP X pins D) X.xe s := by
  have up : wpAny (model X.prog X.w) X.A (setFlight (.ref a) X.env.frame) (fun _ s' => wpAny (model X.prog X.w) X.A (throw (.ref a) : Sem Flow) (SP X pins D) X.xe s') X.xe s := by
    rw [hf]
    exact HandSPX.setFlight_upZ w.fly fun h' held u => wpAny_throw (tk _ _ ⟨a, B, sI, pins, σ, H, cls, d, rfl, w.inv, w.gr, w.up.trans u, .inr (.inr (by rw [hs]; exact held)), w.na, w.os, w.ag, hw⟩)
  obtain ⟨_, _, _, oe, vs, T, _, _, e1, _, e2, e3, _⟩ := w.fly
  refine wpAny_handleBy_nil ?_
  unfold PySem.passOn
  refine wpAny_bind (wpAny_field e1 e2 e3 ?_)
  rw [show (Value.ref T == Value.none) = false from rfl, if_neg Bool.false_ne_true]
  first | exact wpAny_bind (wpAny_pure (wpAny_bind up)) | exact wpAny_bind up
/-- one clause after the other -/
theorem Air.clauses (hs : X.stack = X.env :: X.outer) (hf : X.env.frame = some X.env.locals) (hN : X.N.Nodup) (tk : Takes X Wout) (w : Air X pins σ H a cls d B sI s) (hh : HdsMix X hds l) (hw : wMix X.K Wout D l cls d σ H) :
    wpAny (model X.prog X.w) X.A (handleBy (.ref a) X.env hds) (SP X pins D) X.xe s := by
  have ok := w.inv.ok
  revert hw
  induction hh with
  | nil => exact fun hw => w.goes_on hs hf tk hw
  | one hc hsu _ ih =>
    rintro ⟨b, hb, yes, no⟩
    refine wpAny_handleBy_cons (codeAny_handlers_test (w.asks hf hc hb ?_)) (by intro q; cases q)
    cases b with
    | false => exact ih (no rfl)
    | true =>
      refine codeAny_handlers_suite (HandSPX.lands_againZ w.fly fun h' fl u => ?_)
      have w' := w.kept fl u
      obtain ⟨oe, e1, e2, e3, J⟩ := w'.in_suite hf
      refine wpAny_mono ((hsu a oe cls d (X.pn ++ pins) e2 e3).run [] _ σ H _ J (yes rfl a w.na)) (fun f s6 hp => ?_) fun _ _ z => z.elim
      cases f with
      | ret u =>
        obtain ⟨r, σ', H', J', rr, q⟩ := hp
        exact ⟨r, σ', H', J'.unsuite ok, rr, q⟩
      | next =>
        obtain ⟨σ', H', J', q⟩ := hp
        exact ⟨σ', H', J'.unsuite ok, q⟩
      | brk =>
        obtain ⟨σ', H', J', q⟩ := hp
        exact ⟨σ', H', J'.unsuite ok, q⟩
      | cont =>
        obtain ⟨σ', H', J', q⟩ := hp
        exact ⟨σ', H', J'.unsuite ok, q⟩
  | @named x n c i ts b₀ suite np pos' hds l hc hi hln hsu _ ih =>
    rintro ⟨b, hb, yes, no⟩
    refine wpAny_handleBy_cons (codeAny_handlers_test (w.asks hf hc hb ?_)) (by intro q; cases q)
    cases b with
    | false => exact ih (no rfl)
    | true =>
      refine codeAny_handlers_suite_as (HandSPX.lands_againZ w.fly fun h' fl u => ?_)
      have w' := w.kept fl u
      obtain ⟨oe, e1, e2, e3, J⟩ := w'.in_suite hf
      refine store_ok (X := X.suite a ((a, oe) :: (X.pn ++ pins))) (v := .ref a) J hN hi (.inl hln) rfl (fun s5 J5 => ?_) (.inr hln)
      refine wpAny_mono ((hsu a oe cls d (X.pn ++ pins) e2 e3).run [] s5 _ H _ J5 (yes rfl a w.na)) (fun f s6 hp => ?_) fun _ _ z => z.elim
      cases f with
      | ret u =>
        obtain ⟨r, σ', H', J', rr, q⟩ := hp
        exact gone_ok (J'.unsuite ok) hN hi hln fun s7 J7 => ⟨r, _, H', J7, rr, q⟩
      | next =>
        obtain ⟨σ', H', J', q⟩ := hp
        exact gone_ok (J'.unsuite ok) hN hi hln fun s7 J7 => ⟨_, H', J7, q⟩
      | brk =>
        obtain ⟨σ', H', J', q⟩ := hp
        exact gone_ok (J'.unsuite ok) hN hi hln fun s7 J7 => ⟨_, H', J7, q⟩
      | cont =>
        obtain ⟨σ', H', J', q⟩ := hp
        exact gone_ok (J'.unsuite ok) hN hi hln fun s7 J7 => ⟨_, H', J7, q⟩
end
section
variable {X : Cx} {body : List Stmt} {h₀ : ExceptHandler} {hds : List ExceptHandler} {l : List (Value × Option Nat × (Addr → Value → Option Addr → TS))} {pos : Pos} {tb : WX → TS} {Wout : WX}
/-- try: body, then the clauses -/
theorem ps_try_mix (hs : X.stack = X.env :: X.outer) (hf : X.env.frame = some X.env.locals) (hN : X.N.Nodup) (tk : Takes X Wout)
    (hb : ∀ (W : WX) (pn : List (Addr × Obj)) (xe : Value → Shared → Prop), Takes (X.tr pn xe) W → PassesOwn (model X.prog X.w) X.A X.env xe → PSs (X.tr pn xe) body (tb W)) (hh : HdsMix X (h₀ :: hds) l) :
    PS X (.Try body (h₀ :: hds) [] [] pos) (fun D σ H => tb (wMix X.K Wout D l) D σ H) := by
  refine ⟨fun pins s σ H D I h => wpAny_Try_except ?_⟩
  have run := (hb (wMix X.K Wout D l) (X.pn ++ pins) (fun e s₁ => wpAny (model X.prog X.w) X.A (noteFrame e X.env) (fun _ s₂ => wpAny (model X.prog X.w) X.A (setFlight e none) (fun _ s₃ =>
    wpAny (model X.prog X.w) X.A (handleBy e X.env (h₀ :: hds)) (SP X pins D) X.xe s₃) X.xe s₂) X.xe s₁) ?caught PassesOwn.looking).run [] s σ H D (I.toTry _) h
  case caught =>
    rintro u s' ⟨a, B, sI, _, σ', H', cls, d, rfl, J, gr, u1, sky, na, os, ag, hw⟩
    refine Sky.land Zc.steady (by rw [I.ok.frames, hs]) hf (by rw [← hs]; exact sky) fun h3 fl u3 => ?_
    exact Air.clauses (sI := sI) (s := { s' with heap := h3 }) hs hf hN tk ⟨J.ofTry I.ok, gr, u1.trans u3, fl, na, os, ag⟩ hh hw
  refine wpAny_mono run (fun f s1 hp => ?_) fun _ _ z => z
  cases f with
  | ret u =>
    obtain ⟨r, σ', H', J, rr, q⟩ := hp
    exact ⟨r, σ', H', J.ofTry I.ok, rr, q⟩
  | next =>
    obtain ⟨σ', H', J, q⟩ := hp
    exact wpAny_execs_nil ⟨σ', H', J.ofTry I.ok, q⟩
  | brk =>
    obtain ⟨σ', H', J, q⟩ := hp
    exact ⟨σ', H', J.ofTry I.ok, q⟩
  | cont =>
    obtain ⟨σ', H', J, q⟩ := hp
    exact ⟨σ', H', J.ofTry I.ok, q⟩
end
end DL
end
section
set_option Elab.async false
set_option linter.all false
set_option maxRecDepth 100000
set_option maxHeartbeats 2000000
/-! Defs that are called where no repr is under way (A.guards = some []); repr(()). -/
namespace DL
open PySem PySem.Spec PyProof.Rows L2 Evl
/-! ### repr(()) -/
section
variable {prog : Program} {w : World} {A : Around} {E : Value → Shared → Prop} {s : Shared} {a : Addr} {o : Obj} {n : Nat} {Q : Value → Shared → Prop}
theorem repr_empty (ha : s.heap.get? a = some o) (hc : o.cls = .type "tuple") (hd : o.data = .seq #[] n) (hg : A.guards = some []) (hu : A.units + 8 < cLine) (h : ∀ u tk, Q (.str "()" u) { s with toks := tk }) : wpAny (model prog w) A (call (.builtin "repr") [.ref a]) Q E s := by
  have hT : s.TypeIs (.ref a) "tuple" := ⟨o, ha, hc⟩
  refine Calls.call_function_entry F.kind_repr F.plain_repr F.entry_repr (F.args_repr1 _) ?_
  unfold Builtin.«repr»
  refine wpAny_bind (m := oneArg "repr" _) (wpAny_pure ?_)
  refine wpAny_bind (wpAny_cRoomFor (by show A.units + 1 < cLine; omega) ?_)
  refine wpAny_bind (wpAny_specialOf (name := Str.ofString "__repr__") hT F.slot_tuple_repr.lookup ?_)
  refine wpAny_bind (m := callSpecialIfBound? (.ref a) (Str.ofString "__repr__")) (wpAny_callSpecialIfBound?_slotG (name := Str.ofString "__repr__") hT F.slot_tuple_repr
    (call_tuple_repr (ts := []) hT (g := []) (by first | exact hg | (rw [Around.in1_guards]; exact hg)) (fun c hc => nomatch hc) ha hd .nil (fun u tk => ?_) (by decide +kernel)))
  refine wpAny_bind (wpAny_isInstance (T := "str") (b := true) rfl isSubtype_str_str ?_)
  exact wpAny_pure ⟨_, rfl, h u tk⟩
end
/-! ### promises where no repr is under way -/
structure FnG (P : Program) (w : World) (K : PySem.W.Frag) (mg : Str → Option Value) (base : Heap) (CX : CXT) (k : Nat) (f : Addr) (fd : FuncData) (ps : List Str) (sp : Sp) : Prop where
  len : ∀ vs H Q E, sp vs H Q E → vs.length = ps.length
  run : ∀ (A : Around) (outer : List Env) (s : Shared) (H : Hp) (args : Args) (us : List Value) (vs : List V) (Q : VK) (E : XK), Room k A → A.guards = some [] → Env0 P w K mg base A outer s H → BindsTo s fd args (ps.zip us) → Vals vs us → sp vs H Q E →
    codeAny (model P w) A (.call (.ref f) args) (CR CX outer P w H s Q E) s
structure CalG (P : Program) (w : World) (K : PySem.W.Frag) (mg : Str → Option Value) (base : Heap) (x : Str) (k : Nat) (ps : List Str) (sp : Sp) : Prop where
  ex : ∃ f fd, FnG P w K mg base (L2.CX P w) k f fd ps sp ∧ mg x = some (.ref f) ∧ PySem.W.keepIn K (.ref f) = true ∧ Binds K fd ps []
theorem guards_deeper {A : Around} {env : Env} (h : A.guards = some []) : (A.deeper env).guards = some [] := by
  first | exact h | (show pushGuards _ _ = _; rw [h]; rfl)
section
variable {P : Program} {w : World} {K : PySem.W.Frag} {mg : Str → Option Value} {base : Heap} {x : Str} {st : Stmt} {f : Addr} {fd : FuncData} {N ps : List Str} {k : Nat} {sp : Sp}
theorem calG_mk (F : FnP K x st f fd) (hm : mg x = some (.ref f)) (S : FnScope N ps (defScope st)) (hb : Binds K fd ps []) (len : ∀ vs H Q E, sp vs H Q E → vs.length = ps.length)
    (hbody : ∀ (oc : Value) (od : Option Addr) (dV kV doc pm cdv ct : Value) (an : Option Addr) (osl : Array (Option Value)) (A : Around) (outer : List Env) (s : Shared) (H : Hp) (vs : List V) (Q : VK) (E : XK),
      K.lookup f = some ⟨oc, od, .func (PySem.W.fnOf x x (defArgs st) (defBody st) (defScope st) dV kV doc pm an cdv ct), osl⟩ → Room k (A.deeper (envOfC x (defScope st) s.heap.objs.size f cdv)) → (A.deeper (envOfC x (defScope st) s.heap.objs.size f cdv)).guards = some [] → sp vs H Q E →
      ∃ t, PSs (cxOf (L2.CX P w) P w K mg base N x (defScope st) f cdv A outer s H E) (defBody st) t ∧ t { nx := fun _ H' => Q .non H', rt := Q } (start N vs) H) : CalG P w K mg base x (k + 1) ps sp := by
  obtain ⟨oc, od, dV, kV, doc, pm, an, cdv, ct, osl, e, lk, hcd, _, _⟩ := F.ex
  subst e
  refine ⟨f, _, ⟨len, fun A outer s H args us vs Q E hr hg e0 hbd r hsp => ?_⟩, hm, F.kp, hb⟩
  exact LamX.run_ofS lk hcd S hr e0 hbd r (len _ _ _ _ hsp) fun hr' => hbody oc od dV kV doc pm cdv ct an osl A outer s H vs Q E lk hr' (guards_deeper hg) hsp
end
section
variable {X : Cx} {CX : CXT} {k k' : Nat} {f : Addr} {fd : FuncData} {ps : List Str} {sp : Sp} {E : XK} {x : Str} {p pos : Pos} {e : Expr} {es : List Expr} {t : TA} {pins : List (Addr × Obj)} {σ : L2.St} {H : Hp} {s : Shared} {Q : VK} {us : List Value} {vs : List V}
theorem run_fnG (F : FnG X.prog X.w X.K X.mg X.base CX k f fd ps sp) (hr : Room k X.A) (hg : X.A.guards = some []) (hb : Binds X.K fd ps []) (hx : Passes CX X E) (I : Inv X pins σ H s) (r : Vals vs us) (h : sp vs H Q E) :
    wpAny (model X.prog X.w) X.A (call (.ref f) us) (EP X pins σ Q) X.xe s := by
  have b := hb s us I.kIn (by rw [List.append_nil, ← r.length]; exact F.len _ _ _ _ h)
  rw [List.append_nil] at b
  refine wpAny_call (codeAny_mono (F.run X.A X.stack s H ⟨us, []⟩ us vs Q E hr hg I.env0 b r h) fun res s' hq => ?_)
  match res, hq with
  | .error e, hq => exact hx pins σ H s e s' I hq
  | .ok (.ret u), hq => exact I.after hq
  | .ok .next, hq => exact hq.elim
  | .ok .brk, hq => exact hq.elim
  | .ok .cont, hq => exact hq.elim
theorem pe_callG (C : CalG X.prog X.w X.K X.mg X.base x k ps sp) (hr : Room k' X.A) (hgd : X.A.guards = some []) (hg : Gl X x) (hx : Passes (L2.CX X.prog X.w) X E) (ha : PA X (e :: es) t) (hk : k ≤ k' := by decide)
    (hdb : (x == ("__debug__" : Str)) = false := by decide) (he : starEach (e :: es) X.env = (false, eval e X.env) :: starEach es X.env := by rfl) (hpl : (backTo pos (starEach es X.env)).any (·.1) = false := by rfl) :
    PE X (.Call (.Name x p) (e :: es) [] pos) (tCall sp [] E t) := by
  obtain ⟨f, fd, F, hm, kp, hb⟩ := C.ex
  refine ⟨fun pins s σ H Q I h => wpAny_Call_Name_kw (ld_glob I hg hm ?_ hdb)⟩
  refine PySem.W.callWith_K (h₀ := X.base) I.ok.mod.kin kp (thn (ha.run pos pins s σ H _ I h) fun us s1 ⟨vs, H1, I1, r, q⟩ => ⟨I1.kIn, ?_⟩) he hpl
  have q' : sp (vs ++ []) H1 Q E := q
  rw [List.append_nil] at q'
  exact run_fnG F (hr.mono hk) hgd hb hx I1 r q'
/-- repr of None, bools, ints, texts, and of () -/
def rReprT (K : PySem.W.Frag) : List V → Hp → VK → Prop := fun xs H Q => rRepr xs H Q ∨ ∃ a, xs = [.ref a] ∧ SqT K H a [] ∧ Q (.str "()") H
theorem call_reprT (hu : X.A.units + 64 < cLine) (hg : X.A.guards = some []) : CallR X (.builtin "repr") (rReprT X.K) := by
  intro pins s σ H xs us Q I r h
  rcases h with h | ⟨a, rfl, ht, q⟩
  · exact call_repr pins s σ H xs us Q I r h
  · obtain ⟨u, rfl, e⟩ := vals1 r
    obtain rfl : u = Value.ref a := e
    obtain ⟨its, rv, ⟨o, ho, hcl, n, hd⟩, _⟩ := I.tuple ht
    cases rv
    exact repr_empty ho hcl hd hg (by omega) fun t tk => ⟨.str "()", H, I.tok _, ⟨t, rfl⟩, q⟩
end
end DL
end
section
set_option Elab.async false
set_option linter.all false
set_option maxRecDepth 100000
set_option maxHeartbeats 2000000
/-! x(lambda one=0: body): a lambda with one parameter that has a number for its default, handed to a def that calls it with nothing. -/
namespace LamD
open PySem PySem.Spec PySem.Calls PyProof.Rows L2 LamX PySem.W
/-- the function's record: as a lambda's without defaults, with the tuple of defaults at dV -/
abbrev lamF (qual : Str) (params : Arguments) (body : Expr) (scope : Scope) (cl : List (Str × Addr)) (pm cdv ct dV : Value) : FuncData := { kla_fn "<lambda>" qual params body scope cl pm cdv ct with defaults := dV }
section
variable {M : Model} {A : Around} {E : Value → Shared → Prop} {s : Shared} {qual : Str} {params : Arguments} {body : Expr} {scope : Scope} {env : Env} {c P : Addr} {ps : Array Value} {pos : Pos} {line : Nat} {mg : Str → Option Value} {clos : List (Str × Addr)} {dV : Value} {Q : Value → Shared → Prop}
/-- the function's own record laid: code object, built-ins and module's name are there -/
theorem lay_fn {cv ct : Value} (hg : s.heap.Ns mainGlobals mg) (hb : s.heap.BuiltinsAt mg P) (h : Q (.ref s.heap.objs.size) { s with heap := s.heap.push { cls := .type "function", data := .func (lamF qual params body scope clos ((mg "__name__").getD .none) cv ct dV) } }) :
    wpAny M A (do
      let b ← builtinsFor mainGlobals env.builtins
      let nm ← nsGet mainGlobals "__name__"
      newObj (.type "function") (.func { name := "<lambda>", qualname := qual, params, body := .expr body, scope, globals := mainGlobals, closure := clos, closureTuple := ct, code := cv, builtins := b, defaults := dV, kwdefaults := .none, annotations := none, pyModule := nm.getD .none, doc := .none })) Q E s := by
  obtain ⟨bm, ob, e1, e2, _, _, e3, e4, e5, e6⟩ := hb
  exact wpAny_bind (wpAny_builtinsFor hg e1 e2 e3 e4 e5 e6 (wpAny_bind (wpAny_nsGet hg (wpAny_newObj_type h (by size_fits)))))
/-- .. with the closure's tuple; fc: what its code object's making (or finding) leaves -/
theorem tail_any {R : Value → Shared → Prop} (hcl : closureFor scope env = pure clos) (hge : env.globals = mainGlobals)
    (fc : ∀ s1 : Shared, (∀ b o, s.heap.get? b = some o → s1.heap.get? b = some o) → s.heap.objs.size ≤ s1.heap.objs.size → s1.gens = s.gens → s1.drawn = s.drawn → s1.os = s.os → wpAny M A (functionCode env pos line "<lambda>" qual params scope (.expr body)) R E s1)
    (h : ∀ cv ct s2, R cv s2 → s2.heap.Ns mainGlobals mg ∧ s2.heap.BuiltinsAt mg P ∧ Q (.ref s2.heap.objs.size) { s2 with heap := s2.heap.push { cls := .type "function", data := .func (lamF qual params body scope clos ((mg "__name__").getD .none) cv ct dV) } }) :
    wpAny M A (makeTail "<lambda>" qual params (.expr body) scope env dV .none none pos line) Q E s := by
  have go : ∀ (ct : Value) (s1 : Shared), (∀ b o, s.heap.get? b = some o → s1.heap.get? b = some o) → s.heap.objs.size ≤ s1.heap.objs.size → s1.gens = s.gens → s1.drawn = s.drawn → s1.os = s.os →
      wpAny M A (do
        let cv ← functionCode env pos line "<lambda>" qual params scope (.expr body)
        let b ← builtinsFor mainGlobals env.builtins
        let nm ← nsGet mainGlobals "__name__"
        newObj (.type "function") (.func { name := "<lambda>", qualname := qual, params, body := .expr body, scope, globals := mainGlobals, closure := clos, closureTuple := ct, code := cv, builtins := b, defaults := dV, kwdefaults := .none, annotations := none, pyModule := nm.getD .none, doc := .none })) Q E s1 := by
    intro ct s1 k1 k2 k3 k4 k5
    refine wpAny_bind (wpAny_mono (fc s1 k1 k2 k3 k4 k5) (fun cv s2 hr => ?_) fun _ _ z => z)
    obtain ⟨g, b, q⟩ := h cv ct s2 hr
    exact lay_fn (P := P) g b q
  unfold makeTail
  rw [hcl, hge]
  refine wpAny_bind (wpAny_pure ?_)
  cases clos with
  | nil =>
    simp only [List.isEmpty_nil, if_true]
    refine wpAny_bind (wpAny_pure ?_)
    have g := go .none s (fun _ _ e => e) (Nat.le_refl _) rfl rfl rfl
    first | exact g | (simp only [pure_bind]; exact g)
  | cons q r =>
    simp only [List.isEmpty_cons, Bool.false_eq_true, if_false]
    refine wpAny_bind (wpAny_newTextTuple ?_)
    have g := go (.ref s.heap.objs.size) { s with heap := s.heap.push { cls := .type "tuple", data := .seq (((q :: r).mergeSort fun a b => a.1.cps.toList ≤ b.1.cps.toList).map fun x => Value.ref x.2).toArray } } (fun b o e => Heap.get?_push_of_some _ e) (by rw [Heap.size_push]; omega) rfl rfl rfl
    first | exact g | (simp only [pure_bind]; exact g)
end
theorem ne_of_none' {H : Hp} {a b : Addr} {o : HO} (h : H a = none) (h2 : H b = some o) : a ≠ b := fun z => by rw [z, h2] at h; cases h
section
variable {X : Cx} {pins : List (Addr × Obj)} {σ : L2.St} {H : Hp} {s : Shared}
/-- the lambda is made: its defaults' tuple at tp, its code object at c' -/
theorem lam_make1 {T : List (Addr × Str)} {c P : Addr} {params : Arguments} {body : Expr} {scope : Scope} {pos p2 : Pos} {n : Int} {j : Nat} {E : Value → Shared → Prop} {Q : Value → Shared → Prop} (I : Inv X pins σ H s) (TB : TabB X.base X.mg c P) (hcode : X.env.code = .ref c)
    (hm : (P, X.env.qual ++ "<lambda>") ∈ T) (hu : ∀ p ∈ T, p.1 = P → p.2 = X.env.qual ++ "<lambda>") (hT : Tabs T H) (hdef : defaultsOf params X.env = ([eval (.Constant (.int n) j p2) X.env], [])) (hkw : params.kwonlyargs = [])
    (hfree : ∀ y ∈ scope.names, y.2 = .free → ∃ c, X.env.cells.lookup y.1 = some c)
    (h : ∀ (f c' tp : Addr) (pm ctv : Value) (tk : Tok) (H1 : Hp) (s' : Shared), Inv X pins σ H1 s' → ExtN H H1 → Tabs T H1 →
      s'.heap.get? f = some { cls := .type "function", data := .func (lamF (X.env.qual ++ "<lambda>") params body scope (cloFrom X.env.cells scope.names []) pm (.ref c') ctv (.ref tp)) } → s'.heap.get? tp = some { cls := .type "tuple", data := .seq #[.int n tk] } →
      H1 f = none → H1 tp = none → f ∉ frs X.stack → tp ∉ frs X.stack → H1 c' = some (CodeO c' (X.env.qual ++ "<lambda>")) → Q (.ref f) s') :
    wpAny (model X.prog X.w) X.A (eval (.Lambda params body scope pos) X.env) Q E s := by
  obtain ⟨ps, hP, ht, ha⟩ := hT _ hm
  rw [arm_eval_Lambda, hdef]
  show wpAny _ _ (do
    let dv ← evalAll [eval (.Constant (.int n) j p2) X.env]
    let kdv ← holding dv (evalAllOpt [])
    makeFunction "<lambda>" (X.env.qual ++ "<lambda>") params (.expr body) scope X.env dv kdv [] pos pos.line) Q E s
  refine wpAny_bind (wpAny_bind (wpAny_Constant_int (wpAny_bind (wpAny_holding (wpAny_pure (wpAny_pure ?_))))))
  refine wpAny_bind (wpAny_holding (wpAny_pure ?_))
  rw [makeFunction_eq, hkw]
  simp only [List.zip_nil_left, List.filterMap_nil, List.isEmpty_nil, if_true, pure_bind, List.isEmpty_cons, Bool.false_eq_true, if_false]
  refine wpAny_bind (wpAny_newTextTuple ?_)
  -- the tuple of defaults stands at tp
  have hoff : ∀ f, s.heap.objs.size ≤ f → f ∉ frs X.stack := fun f hf z => by
    rcases List.mem_cons.mp (I.stkSub _ z) with e | e
    · exact absurd (Nat.lt_of_lt_of_le (e ▸ I.lt) hf) (Nat.lt_irrefl _)
    · exact I.nofs hf e
  generalize hs2 : (⟨s.heap.push { cls := .type "tuple", data := .seq [Value.int n s.toks].toArray }, s.gens, s.drawn, s.toks + 1, s.os⟩ : Shared) = s2
  have es : s2.heap = s.heap.push { cls := .type "tuple", data := .seq [Value.int n s.toks].toArray } := by rw [← hs2]
  have k0 : ∀ b o, s.heap.get? b = some o → s2.heap.get? b = some o := fun b o e => by rw [es]; exact Heap.get?_push_of_some _ e
  have hsz0 : s.heap.objs.size ≤ s2.heap.objs.size := by rw [es, Heap.size_push]; omega
  have htp : s2.heap.get? s.heap.objs.size = some { cls := .type "tuple", data := .seq #[.int n s.toks] } := by rw [es]; exact Heap.get?_push_at rfl rfl
  have I2 : Inv X pins σ H s2 := by
    have z := I.kept (h' := s2.heap) (t' := s.toks + 1) k0
    rw [← hs2] at z ⊢
    exact z
  have nT : H s.heap.objs.size = none := I.hok.fresh (Nat.le_refl _)
  have bP : s2.heap.BuiltinsAt X.mg P := TB.bm.keeps I2.bk
  have hP2 : s2.heap.get? P = some { cls := .none, data := .fields ps } := I2.hok P _ hP
  have hcl := closure_ok (scope := scope) (env := X.env) hfree
  have hg2 : s2.heap.Ns mainGlobals X.mg := I2.mod.glob.keeps I2.bk
  have cd2 : PySem.W.CodeHd s2.heap c P := TB.code.keeps I2.bk
  have tpP : s.heap.objs.size ≠ P := ne_of_none' nT hP
  have tpF := hoff _ (Nat.le_refl _)
  have offs : ∀ f, s2.heap.objs.size ≤ f → f ∉ frs X.stack := fun f hf => hoff f (Nat.le_trans hsz0 hf)
  cases hc : codeAmong pos ps.toList with
  | none =>
    refine tail_any (P := P) (mg := X.mg) (dV := .ref s.heap.objs.size) (R := fun cv s3 => s3.gens = s2.gens ∧ s3.drawn = s2.drawn ∧ s3.os = s2.os ∧ ∃ c', cv = .ref c' ∧ (∀ b o, b ≠ P → s2.heap.get? b = some o → s3.heap.get? b = some o) ∧ s2.heap.objs.size ≤ c' ∧ c' < s3.heap.objs.size ∧
      s3.heap.CodeRec (.ref c') (X.env.qual ++ "<lambda>") ∧ s3.heap.get? P = some { cls := .none, data := .fields (ps ++ #[rawInt pos.line, rawInt pos.col, .ref c']) }) hcl I.ok.glob (fun s1 k1 k2 g1 g2 g3 => ?_) fun cv ct s3 hr => ?_
    · refine wpAny_functionCodeX hcode ((cd2.keeps k1).code (k1 _ _ hP2) ht) ((cd2.keeps k1).tab (k1 _ _ hP2)) hc fun c' h' tk hx hge hlt _ hrec htb _ => ?_
      exact ⟨g1, g2, g3, c', rfl, fun b o hb e => hx b o hb (k1 b o e), Nat.le_trans k2 hge, hlt, hrec, htb.2⟩
    obtain ⟨q1, q2, q3, c', rfl, kx, hge, hlt, ⟨c2, oc, vs, t, e2, hoc, hdc, hv⟩, hPn⟩ := hr
    cases e2
    obtain ⟨h3, g3, d3, t3, o3⟩ := s3
    dsimp only at q1 q2 q3 kx hlt hoc hPn
    subst q1 q2 q3
    have nC : H c' = none := I2.hok.fresh hge
    have J := inv_table (q := X.env.qual ++ "<lambda>") (t' := t3) (more := #[rawInt pos.line, rawInt pos.col, .ref c']) (h' := h3.push { cls := .type "function", data := .func (lamF (X.env.qual ++ "<lambda>") params body scope (cloFrom X.env.cells scope.names []) ((X.mg "__name__").getD .none) (.ref c') ct (.ref s.heap.objs.size)) }) I2 hP
      (fun b o hb e => Heap.get?_push_of_some _ (kx b o hb e)) (Heap.get?_push_of_some _ hPn) hge ⟨oc, vs, t, Heap.get?_push_of_some _ hoc, hdc, hv⟩
    have hsz3 : s2.heap.objs.size ≤ h3.objs.size := Nat.le_trans hge (Nat.le_of_lt hlt)
    have hE : ExtN H (upd (upd H P (.tbl (ps ++ #[rawInt pos.line, rawInt pos.col, .ref c']))) c' (CodeO c' (X.env.qual ++ "<lambda>"))) := fun b o e no => by
      rw [upd_ne (ne_of_none e nC), upd_ne (fun z : b = P => no ps (Option.some.inj (e.symm.trans (by rw [z]; exact hP))))]
      exact e
    obtain ⟨bm, ob, b1, b2, b3, b4, b5, b6⟩ := bP
    refine ⟨hg2.extBut kx TB.gP, ⟨bm, ob, b1, b2, b3, b4, kx _ _ b4 b5, b6⟩, h h3.objs.size c' s.heap.objs.size _ ct s.toks _ _ J hE (fun p hp => ?_) (Heap.get?_push_size _ rfl) (Heap.get?_push_of_some _ (kx _ _ tpP htp)) ?_ ?_ (offs _ hsz3) tpF upd_same⟩
    · by_cases hb : p.1 = P
      · rw [hu p hp hb, hb]
        refine ⟨_, by rw [upd_ne (ne_of_none hP nC), upd_same], by rw [Array.toList_append]; exact PySem.TriplesOk_snoc _ _ _ _ ht, fun p' cv hcv => ?_⟩
        rw [Array.toList_append] at hcv
        rcases among_app _ ht hcv with z | z
        · obtain ⟨c0, e1, e2⟩ := ha p' cv z
          exact ⟨c0, e1, hE _ _ e2 codeO_ne⟩
        · exact ⟨c', z, upd_same⟩
      · obtain ⟨ps', a1, a2, a3⟩ := hT p hp
        refine ⟨ps', by rw [upd_ne (ne_of_none a1 nC), upd_ne hb]; exact a1, a2, fun p' cv hcv => ?_⟩
        obtain ⟨c0, e1, e2⟩ := a3 p' cv hcv
        exact ⟨c0, e1, hE _ _ e2 codeO_ne⟩
    · rw [upd_ne (Nat.ne_of_gt hlt), upd_ne (Nat.ne_of_gt (Nat.lt_of_lt_of_le (Heap.lt_size hP2) hsz3))]
      exact I2.hok.fresh hsz3
    · have ltc : s.heap.objs.size < s2.heap.objs.size := Heap.lt_size htp
      rw [upd_ne (Nat.ne_of_lt (Nat.lt_of_lt_of_le ltc hge)), upd_ne tpP]
      exact nT
  | some cv =>
    obtain ⟨c', e, hco⟩ := ha pos cv hc
    subst e
    refine tail_any (P := P) (mg := X.mg) (dV := .ref s.heap.objs.size) (R := fun cv s3 => s3.gens = s2.gens ∧ s3.drawn = s2.drawn ∧ s3.os = s2.os ∧ cv = .ref c' ∧ (∀ b o, s2.heap.get? b = some o → s3.heap.get? b = some o) ∧ s2.heap.objs.size ≤ s3.heap.objs.size) hcl I.ok.glob (fun s1 k1 k2 g1 g2 g3 => ?_) fun cv ct s3 hr => ?_
    · exact wpAny_functionCode_hit hcode ((cd2.keeps k1).code (k1 _ _ hP2) ht) hc ⟨g1, g2, g3, rfl, k1, k2⟩
    obtain ⟨q1, q2, q3, rfl, kx, hsz3⟩ := hr
    obtain ⟨h3, g3, d3, t3, o3⟩ := s3
    dsimp only at q1 q2 q3 kx hsz3
    subst q1 q2 q3
    have J : Inv X pins σ H { s2 with heap := h3.push { cls := .type "function", data := .func (lamF (X.env.qual ++ "<lambda>") params body scope (cloFrom X.env.cells scope.names []) ((X.mg "__name__").getD .none) (.ref c') ct (.ref s.heap.objs.size)) }, toks := t3 } := I2.kept fun b o e => Heap.get?_push_of_some _ (kx b o e)
    refine ⟨hg2.keeps kx, bP.keeps kx, h h3.objs.size c' s.heap.objs.size _ ct s.toks H _ J (ExtN.refl H) hT (Heap.get?_push_size _ rfl) (Heap.get?_push_of_some _ (kx _ _ htp)) (I2.hok.fresh hsz3) nT (offs _ hsz3) tpF hco⟩
end
/-! ### the lambda's names: one parameter, x, which is no name of the maker's; captured names; globals -/
structure LamS1 (sc scope : Scope) (N : List Str) (x : Str) : Prop where
  kind : scope.kind = .function
  co : scope.isCoroutine = false
  gen : scope.isGenerator = false
  cel : ∀ y ∈ scope.names, y.2 ≠ .cell
  own : ∀ y ∈ scope.names, y.2 = .local → y.1 = x
  par : scope.names.lookup x = some .local
  new : x ∉ N
  free : ∀ y ∈ scope.names, y.2 = .free → sc.names.lookup y.1 = some .cell ∨ sc.names.lookup y.1 = some .free
def lamS1B (sc scope : Scope) (N : List Str) (x : Str) : Bool :=
  decide (scope.kind = .function) && (!scope.isCoroutine && (!scope.isGenerator && (decide (scope.names.lookup x = some .local) && (!N.contains x && scope.names.all fun y => !decide (y.2 = .cell) && ((!decide (y.2 = .local) || decide (y.1 = x)) && (!decide (y.2 = .free) || (decide (sc.names.lookup y.1 = some .cell) || decide (sc.names.lookup y.1 = some .free))))))))
theorem lamS1_by {sc scope : Scope} {N : List Str} {x : Str} (h : lamS1B sc scope N x = true) : LamS1 sc scope N x := by
  unfold lamS1B at h
  simp only [Bool.and_eq_true, Bool.or_eq_true, Bool.not_eq_true', decide_eq_true_eq, decide_eq_false_iff_not, List.all_eq_true] at h
  obtain ⟨h1, h2, h3, h4, h5, h6⟩ := h
  refine ⟨h1, h2, h3, fun y hy => (h6 y hy).1, fun y hy e => ?_, h4, fun hm => ?_, fun y hy e => ?_⟩
  · rcases (h6 y hy).2.1 with z | z
    · exact absurd e z
    · exact z
  · have : N.contains x = true := List.contains_iff_mem.mpr hm
    rw [this] at h5
    cases h5
  · rcases (h6 y hy).2.2 with z | z
    · exact absurd e z
    · exact z
section
variable {X : Cx} {pins : List (Addr × Obj)} {σ : L2.St} {H HZ : Hp} {s s1 : Shared} {x : Str}
theorem LamS1.caught {scope : Scope} (L : LamS1 X.env.scope scope X.N x) (ok : X.Ok) : ∀ y ∈ scope.names, y.2 = .free → ∃ c, X.env.cells.lookup y.1 = some c := fun y hy e => ok.has _ (L.free y hy e)
theorem start1 {A : Around} {outer : List Env} {E : XK} {scope : Scope} {f c' : Addr} {h₁ : Heap} {tk : Nat} {u : Value} (I : Inv X pins σ H s) (L : LamS1 X.env.scope scope X.N x) (e0 : Env0 X.prog X.w X.K X.mg X.base A outer s1 HZ) (hd : A.handled = none)
    (un : Un (frs X.stack) [] H HZ s.heap s1.heap) (hns : h₁.Ns s1.heap.objs.size fun y => [(x, u)].reverse.lookup y) (kp : ∀ b o, s1.heap.get? b = some o → h₁.get? b = some o) :
    Inv (lamCx X A outer s1 HZ E scope f c') [] σ HZ { s1 with heap := h₁, toks := tk } := by
  have caught := L.caught I.ok
  have back : ∀ {y c}, (cloFrom X.env.cells scope.names []).lookup y = some c → X.env.cells.lookup y = some c := fun {y c} e => by
    rcases cloFrom_mem (PySem.mem_of_lookup e) with z | ⟨z1, z2⟩
    · exact absurd z (by simp)
    · obtain ⟨c1, e1⟩ := caught _ z1 rfl
      have e1' : X.env.cells.lookup y = some c1 := e1
      rw [z2, e1'] <;> rfl
  have there : ∀ {y}, scope.names.lookup y = some .free → ∃ c, (cloFrom X.env.cells scope.names []).lookup y = some c := fun {y} e =>
    mem_lookup (cloFrom_has (cells := X.env.cells) (acc := []) (PySem.mem_of_lookup e : (y, NameKind.free) ∈ scope.names))
  have stay : ∀ {c : Addr} {v : Option Value}, H c = none → s.heap.IsCell c v → h₁.IsCell c v := fun {c v} hn ⟨o, ho, hd⟩ => by
    obtain ⟨sl, q⟩ := un.any ho hn (by simp)
    exact ⟨_, kp _ _ q, hd⟩
  have none_ : ∀ b : Addr, b ∉ (lamCx X A outer s1 HZ E scope f c').ex := fun b z => nomatch (show b ∈ ([] : List Addr) from z)
  have ok : (lamCx X A outer s1 HZ E scope f c').Ok := {
    mod := e0.mod
    kind := L.kind
    glob := rfl
    blt := rfl
    above := Nat.le_refl _
    inj := fun y z c e1 e2 => I.ok.inj y z c (back e1) (back e2)
    has := fun y hy => by
      rcases (show scope.names.lookup y = some .cell ∨ scope.names.lookup y = some .free from hy) with k | k
      · exact absurd rfl (L.cel _ (PySem.mem_of_lookup k))
      · exact there k
    cab := fun y c z _ => Bool.noConfusion (show false = true from z)
    hd := fun _ => hd
    frames := Around.frames_deeper e0.frames
    stk := .inr ⟨rfl, rfl⟩
    exf := fun b z => absurd z (none_ b)
    bs := e0.bs
    bsz := e0.bsz
    noex := fun b _ _ => none_ b
    exfs := fun b z => absurd z (none_ b)
    funs := e0.funs
    frf := e0.frf }
  refine { ok := ok, os := rfl, bare := e0.bare, base := Un.kept kp, loc := ⟨_, hns, fun i y v e1 e2 e3 => ?_⟩, cell := fun y c e => ?_, free := e0.hok.fresh (Nat.le_refl _), freeC := fun y c e => ?_, pin := fun q hq => absurd (show q ∈ ([] : List (Addr × Obj)) from hq) (by simp), hok := e0.hok.kept kp, len := I.len }
  · rcases (show Vis scope y from e3) with k | k | k
    · exact absurd (List.mem_of_getElem? (show X.N[i]? = some y from e1)) (by
      have e : y = x := L.own _ (PySem.mem_of_lookup k) rfl
      rw [e]
      exact L.new)
    · exact absurd rfl (L.cel _ (PySem.mem_of_lookup k))
    · obtain ⟨m, _, hl⟩ := I.loc
      have fr := L.free _ (PySem.mem_of_lookup k) rfl
      obtain ⟨w, r, q⟩ := hl i y v e1 e2 (.inr fr)
      obtain ⟨c2, e4⟩ := there k
      refine ⟨w, r, .inr ⟨.inr k, c2, e4, ?_⟩⟩
      rcases q with ⟨k', _⟩ | ⟨_, c3, e5, z⟩
      · have k' : X.env.scope.names.lookup y = some .local := k'
        rcases fr with k2 | k2 <;> rw [show X.env.scope.names.lookup y = _ from k2] at k' <;> cases k'
      · have e6 := (back e4).symm.trans e5
        cases e6
        exact stay (I.freeC y _ e5) z
  · obtain ⟨w, z⟩ := I.cell y c (back e)
    exact ⟨w, stay (I.freeC y c (back e)) z⟩
  · obtain ⟨v, o, ho, _⟩ := I.cell y c (back e)
    exact un.free c o ho (I.freeC y c (back e)) (by simp)
end
section
variable {X : Cx} {pins : List (Addr × Obj)} {σ : L2.St} {H : Hp} {s : Shared} {x : Str}
/-- what a call with nothing binds: the default -/
def BindOne (params : Arguments) (x : Str) : Prop := ∀ (q : Str) (body : Expr) (scope : Scope) (cl : List (Str × Addr)) (pm cv ctv v : Value) (tp : Addr),
  ∃ k, bindArgs (lamF q params body scope cl pm cv ctv (.ref tp)) ⟨[], []⟩ = seqItems? (.ref tp) >>= k ∧ k (some #[v]) = pure [(x, v)]
/-- a(), in the def that got the lambda -/
theorem act1 {CXg : CXT} {Eg : XK} {Ng : List Str} {qg : Str} {sg : Scope} {g f c' tp : Addr} {cdg pm ctv : Value} {params : Arguments} {body : Expr} {scope : Scope} {n : Int} {tt : Tok} {k i : Nat} {a : Str} {pn : List (Addr × Obj)} {xe : Value → Shared → Prop} {W : WX} {E : XK} {tb : TE} {p1 p2 : Pos}
    (I : Inv X pins σ H s) (L : LamS1 X.env.scope scope X.N x) (hB : BindOne params x) (hf : s.heap.get? f = some { cls := .type "function", data := .func (lamF (X.env.qual ++ "<lambda>") params body scope (cloFrom X.env.cells scope.names []) pm (.ref c') ctv (.ref tp)) })
    (ht : s.heap.get? tp = some { cls := .type "tuple", data := .seq #[.int n tt] }) (hfn : H f = none) (htn : H tp = none) (hfr : f ∉ frs X.stack) (htr : tp ∉ frs X.stack)
    (tk : Takes ((cxOf CXg X.prog X.w X.K X.mg X.base Ng qg sg g cdg X.A X.stack s H Eg).tr pn xe) W) (hW : ∀ cls d σ' H', E cls d H' → W cls d σ' H') (hr : Room (k + 1) (X.A.deeper (envOfC qg sg s.heap.objs.size g cdg)))
    (hbody : ∀ (A : Around) (outer : List Env) (s : Shared) (H : Hp), Room k (A.deeper (lamEnv X scope s.heap.objs.size f c')) → PE (lamCx X A outer s H E scope f c') body tb)
    (hN : Ng[i]? = some a) (hv : Vis sg a) (hd : (a == ("__debug__" : Str)) = false := by decide) (hcd : (a == ("__classdict__" : Str)) = false := by decide) :
    PE ((cxOf CXg X.prog X.w X.K X.mg X.base Ng qg sg g cdg X.A X.stack s H Eg).tr pn xe) (.Call (.Name a p1) [] [] p2)
      (fun σZ HZ Q => σZ[i]? = some (some (.ref f)) ∧ HZ c' = some (CodeO c' (X.env.qual ++ "<lambda>")) ∧ tb σ HZ Q) := by
  refine ⟨fun pinsZ sZ σZ HZ Q IZ ⟨hs, hc, hq⟩ => ?_⟩
  refine wpAny_Call_Name_kw (thn ((pe_var (pos := p1) (i := i) hN hv hd hcd).run pinsZ sZ σZ HZ (fun v H1 => v = .ref f ∧ H1 = HZ) IZ ⟨.ref f, hs, rfl, rfl⟩) fun u s1 ⟨v, H1, I1, r1, ev, eH⟩ => ?_)
  subst ev eH
  obtain rfl : u = Value.ref f := r1
  have nx : ∀ b : Addr, b ∉ ([] : List Addr) := fun b z => nomatch z
  have f1 := I1.base.keep f _ hf hfn hfr (nx f)
  have t1 := I1.base.keep tp _ ht htn htr (nx tp)
  obtain ⟨⟨oc, vs, t, hoc, hdc, hvc⟩, _, _⟩ := I1.hok c' _ hc
  refine PySem.W.callWith_F0 ⟨_, _, _, _, f1⟩ ?_
  have run : codeAny (model X.prog X.w) (X.A.deeper (envOfC qg sg s.heap.objs.size g cdg)) (.call (.ref f) ⟨[], []⟩) (CR (L2.CX X.prog X.w) (envOfC qg sg s.heap.objs.size g cdg :: X.stack) X.prog X.w H1 s1 Q E) s1 := by
    refine PySem.W.kla_callFunE hr.depth f1 rfl L.co L.gen rfl ⟨c', oc, vs, t, rfl, hoc, hdc, hvc⟩ ?_
    obtain ⟨kk, e1, e2⟩ := hB (X.env.qual ++ "<lambda>") body scope (cloFrom X.env.cells scope.names []) pm (.ref c') ctv (.int n tt) tp
    rw [e1]
    refine wpAny_bind ?_
    unfold seqItems?
    refine wpAny_bind (wpAny_load t1 (wpAny_pure ?_))
    rw [e2]
    refine wpAny_pure (wpAny_newFunctionEnv L.cel (fun y hy => ?_) (fun h₁ hns hsb => ⟨I1.nolimit.fresh _ hsb, ?_⟩) L.kind)
    · rw [List.mem_singleton.mp hy]
      exact L.par
    show codeAny _ _ (.expr body (lamEnv X scope s1.heap.objs.size f c')) _ _
    have kp : ∀ b o, s1.heap.get? b = some o → h₁.get? b = some o := fun b o e => hsb.extBut b o (Nat.ne_of_lt (Heap.lt_size e)) (Heap.get?_push_of_some _ e)
    have J := start1 (E := E) (scope := scope) (f := f) (c' := c') (tk := s1.toks + ([(x, Value.int n tt)] : List (Str × Value)).length) I L I1.env0 hr.hd I1.base hns kp
    refine PySem.W.kla_codeExpr (wpAny_mono ((hbody _ _ s1 H1 (hr.deeper _)).run [] _ _ H1 Q J hq) (fun v s' ⟨w, H', J', rv, q⟩ => ?_) fun e s' z => z)
    exact ⟨w, H', J'.os, J'.bare, J'.base, J'.hok, rv, q⟩
  have hx : Passes (L2.CX X.prog X.w) ((cxOf CXg X.prog X.w X.K X.mg X.base Ng qg sg g cdg X.A X.stack s H Eg).tr pn xe) E := passes_call tk hW
  refine wpAny_call (codeAny_mono run fun r s' hq => ?_)
  match r, hq with
  | .error e, hq => exact hx pinsZ σZ H1 s1 e s' I1 hq
  | .ok (.ret u), hq => exact I1.after hq
  | .ok .next, hq => exact hq.elim
  | .ok .brk, hq => exact hq.elim
  | .ok .cont, hq => exact hq.elim
/-- g(lambda x=n: body) -/
theorem pe_lamcall1 {T : List (Addr × Str)} {TT : (XK → Hp → VK → Prop) → Hp → VK → Prop} {y a : Str} {g c P : Addr} {k : Nat} {pg : Arguments} {bg : List Stmt} {sg : Scope} {dV kV doc pm cdv ct oc : Value} {an od : Option Addr} {osl : Array (Option Value)} {Ng : List Str}
    {params : Arguments} {body : Expr} {scope : Scope} {n : Int} {j : Nat} {t : XK → TE} {p p2 lpos pos : Pos} (hg : Gl X y) (hm : X.mg y = some (.ref g)) (hk : PySem.W.keepIn X.K (.ref g) = true)
    (lk : X.K.lookup g = some ⟨oc, od, .func (PySem.W.fnOf y y pg bg sg dV kV doc pm an cdv ct), osl⟩) (hcg : PySem.W.codeIn X.K cdv y = true) (hb : L2.Binds X.K (PySem.W.fnOf y y pg bg sg dV kV doc pm an cdv ct) [a] []) (Sg : FnScope Ng [a] sg) (hNg : Ng[0]? = some a) (hva : Vis sg a)
    (hG : GivesTo X Ng y sg g cdv bg a (X.env.qual ++ "<lambda>") TT) (TB : TabB X.base X.mg c P) (hcode : X.env.code = .ref c) (hmT : (P, X.env.qual ++ "<lambda>") ∈ T) (hu : ∀ p ∈ T, p.1 = P → p.2 = X.env.qual ++ "<lambda>") (hr : Room (k + 2) X.A)
    (L : LamS1 X.env.scope scope X.N x) (hB : BindOne params x) (hdef : defaultsOf params X.env = ([eval (.Constant (.int n) j p2) X.env], [])) (hkw : params.kwonlyargs = [])
    (hbody : ∀ (A : Around) (outer : List Env) (s : Shared) (H : Hp) (E : XK) (f c' : Addr), Room k (A.deeper (lamEnv X scope s.heap.objs.size f c')) → PE (lamCx X A outer s H E scope f c') body (t E))
    (hdb : (y == ("__debug__" : Str)) = false := by decide) (hd : (a == ("__debug__" : Str)) = false := by decide) (hcd : (a == ("__classdict__" : Str)) = false := by decide) :
    PE X (.Call (.Name y p) [.Lambda params body scope lpos] [] pos) (tLam T TT t) := by
  refine ⟨fun pins s σ H Q I ⟨hT, h⟩ => ?_⟩
  refine wpAny_Call_Name_kw (ld_glob I hg hm ?_ hdb)
  refine PySem.W.callWith_K (h₀ := X.base) I.ok.mod.kin hk ?_ (by rfl) (by rfl)
  show wpAny _ _ (spliced ((false, eval (.Lambda params body scope lpos) X.env) :: backTo pos (starEach [] X.env))) _ _ s
  refine Calls.spliced_cons (lam_make1 I TB hcode hmT hu hT hdef hkw (L.caught I.ok) fun f c' tp pm' ctv tt H1 s' I1 eN T1 hf ht hfn htn hfr htr hco => ?_)
  refine Calls.spliced_nil ⟨I1.kIn, ?_⟩
  have run : codeAny (model X.prog X.w) X.A (.call (.ref g) ⟨[.ref f], []⟩) (CR C8.CX0 X.stack X.prog X.w H1 s' Q C8.E0) s' := by
    refine run_ofS (N := Ng) (ps := [a]) (us := [.ref f]) (vs := [.ref f]) lk hcg Sg hr I1.env0 (hb s' [.ref f] I1.kIn rfl) (.cons rfl .nil) rfl fun hr' => ?_
    obtain ⟨t', e1, e2⟩ := hG f c' s' H1 Q (fun E H' Q' => t E σ H' Q') (fun W pn xe E p1 p2 tk hW => act1 (i := 0) I1 L hB hf ht hfn htn hfr htr tk hW hr' (fun A outer s H hr2 => hbody A outer s H E f c' hr2) hNg hva hd hcd) hco (h H1 eN T1)
    exact ⟨t', e1.nox, e2⟩
  refine wpAny_call (codeAny_mono run fun r s2 hq => ?_)
  match r, hq with
  | .error e, hq => exact (show False from hq).elim
  | .ok (.ret u), hq => exact I1.after hq
  | .ok .next, hq => exact hq.elim
  | .ok .brk, hq => exact hq.elim
  | .ok .cont, hq => exact hq.elim
end
end LamD
end
section
set_option Elab.async false
set_option linter.all false
set_option maxRecDepth 100000
set_option maxHeartbeats 4000000
/-! The walk: each def of the row, what it answers by data. -/
namespace K95
open PySem PySem.Spec PyProof.Rows L2 Evl DL
/-! ### the reading by data, step by step: local words -/
local macro_rules | `(tactic| walk_at "fact") => `(tactic| first | assumption | rfl | omega | decide | (simp; done) | (simp; omega))
local macro_rules | `(tactic| walk_at "callR") => `(tactic| first | exact ⟨_, rfl, rfl⟩ | exact ⟨_, _, rfl, rfl⟩ | exact ⟨_, rfl, by walk_at "fact", rfl⟩ | exact ⟨_, _, rfl, by walk_at "fact", rfl⟩ | exact ⟨_, _, _, rfl, rfl⟩)
local macro_rules | `(tactic| walk_at "callX") => `(tactic| first | exact .inr ⟨_, _, rfl, by walk_at "fact", rfl⟩ | exact .inr (.inr ⟨_, _, rfl, by walk_at "fact", rfl⟩))
local macro_rules | `(tactic| walk_at "rd") => `(tactic| first
  | with_reducible exact rg_add | with_reducible exact rd_sub | with_reducible exact rd_lt | with_reducible exact rd_le | with_reducible exact rg_gt | with_reducible exact rg_gtT | with_reducible exact rd_ge
  | exact rd_ixT (by walk_at "fact") | exact rd_ixL (by walk_at "fact")
  | exact rg_catT (by walk_at "fact") | exact rg_catL (by walk_at "fact") | exact rg_catS (by walk_at "fact")
  | exact rd_eq (by walk_at "fact") (by walk_at "fact") | exact rd_ne (by walk_at "fact") (by walk_at "fact")
  | exact rd_isB | exact rd_notB | exact rd_inS | exact rd_ninS
  | exact rd_mod (by walk_at "fact") | exact rd_fdivW (by walk_at "fact") | exact rg_mul (by walk_at "fact") | exact rd_pow (by walk_at "fact"))
local macro_rules | `(tactic| walk_at "rc") => `(tactic| first
  | with_reducible exact rc_lenT | with_reducible exact rc_lenL | with_reducible exact rc_tupleL | with_reducible exact rc_listT | with_reducible exact rc_listL | with_reducible exact rc_max2 | with_reducible exact rc_min2 | with_reducible exact rc_abs | with_reducible exact rc_int | with_reducible exact rc_intB | with_reducible exact rc_reprB)
local macro_rules | `(tactic| walk_at "eda") => `(tactic| first
  | with_reducible exact eda_nil
  | ((with_reducible refine' eda_cons ?k1 ?k2); (case k1 => walk_at "ed0"); (case k2 => walk_at "eda"))
  | ((with_reducible refine' eda_starL ?k1 ?k2); (case k1 => walk_at "ed0"); (case k2 => walk_at "eda"))
  | ((with_reducible refine' eda_starT ?k1 ?k2); (case k1 => walk_at "ed0"); (case k2 => walk_at "eda")))
local macro_rules | `(tactic| walk_at "ed0") => `(tactic| first
  | with_reducible exact ed_int | with_reducible exact ed_str | with_reducible exact ed_bl | with_reducible exact ed_non
  | ((with_reducible refine' ed_var ?k1 ?k2); (case k1 => rfl); (case k2 => assumption))
  | ((with_reducible refine' ed_isi ?k1 ?k2); (case k1 => walk_at "ed0"); (case k2 => first | exact kit_int _ | exact kit_bool _ | exact kit_tup _ | exact kit_str _))
  | ((with_reducible refine' ed_op ?k1 ?k2 ?k3); (case k1 => walk_at "ed0"); (case k2 => walk_at "ed0"); (case k3 => walk_at "rd"))
  | ((with_reducible refine' ed_neg ?k1); (case k1 => walk_at "ed0"))
  | ((with_reducible refine' ed_cb ?k1 ?k2); (case k1 => walk_at "eda"); (case k2 => walk_at "rc"))
  | ((with_reducible refine' ed_call ?k1 ?k2); (case k1 => walk_at "eda"); (case k2 => walk_at "callR"))
  | ((with_reducible refine' ed_callX ?k1 ?k2); (case k1 => walk_at "eda"); (case k2 => walk_at "callX"))
  | ((with_reducible refine' ed_tup ?k1 ?k2); (case k1 => walk_at "eda"); (case k2 => walk_at "fact"))
  | ((with_reducible refine' ed_lst ?k1 ?k2); (case k1 => walk_at "eda"); (case k2 => walk_at "fact"))
  | ((with_reducible refine' ed_slT ?k1 ?k2 ?k3); (case k1 => walk_at "ed0"); (case k2 => walk_at "eo"); (case k3 => walk_at "eo"))
  | ((with_reducible refine' ed_slL ?k1 ?k2 ?k3); (case k1 => walk_at "ed0"); (case k2 => walk_at "eo"); (case k3 => walk_at "eo"))
  | ((with_reducible refine' ed_and ?k1 (fun _ => ?k2)); (case k1 => walk_at "ed0"); (case k2 => walk_at "ed0"))
  | ((with_reducible refine' ed_or ?k1 (fun _ => ?k2)); (case k1 => walk_at "ed0"); (case k2 => walk_at "ed0"))
  | ((with_reducible refine' ed_not ?k1); (case k1 => walk_at "ed0"))
  | ((with_reducible refine' ed_chain ?k1 ?k2 ?k3 (fun _ => ?k4) (fun _ => ?k5)); (case k1 => walk_at "ed0"); (case k2 => walk_at "ed0"); (case k3 => walk_at "rd"); (case k4 => walk_at "ed0"); (case k5 => walk_at "rd"))
  | ((with_reducible refine' ed_ifv ?k1 (fun _ => ?k2) (fun _ => ?k3)); (case k1 => walk_at "eb0"); (case k2 => walk_at "ed0"); (case k3 => walk_at "ed0"))
  | ((with_reducible refine' ed_listZip ?k1); (case k1 => walk_at "eda")))
local macro_rules | `(tactic| walk_at "eo") => `(tactic| first
  | with_reducible exact eo_no
  | ((with_reducible refine' eo_part ?k1); (case k1 => walk_at "ed0")))
local macro_rules | `(tactic| walk_at "eb0") => `(tactic| first
  | ((with_reducible refine' eb_and ?k1 (fun _ => ?k2)); (case k1 => walk_at "eb0"); (case k2 => walk_at "eb0"))
  | ((with_reducible refine' eb_or ?k1 (fun _ => ?k2)); (case k1 => walk_at "eb0"); (case k2 => walk_at "eb0"))
  | ((with_reducible refine' eb_not ?k1); (case k1 => walk_at "eb0"))
  | ((with_reducible refine' et_tst ?k1); (case k1 => walk_at "ed0"))
  | ((with_reducible refine' et_Bv ?k1); (case k1 => walk_at "ed0")))
local macro_rules | `(tactic| walk_at "ed") => `(tactic| (refine' EvD.is ?k1 ?k2; (case k1 => walk_at "ed0"); (case k2 => first | rfl | (simp; done))))
local macro_rules | `(tactic| walk_at "eb") => `(tactic| (refine' EvB.is ?k1 ?k2; (case k1 => walk_at "eb0"); (case k2 => first | rfl | (simp; done))))
local macro_rules | `(tactic| walk_at "len") => `(tactic| (intro ds d h; first | (obtain ⟨a, e, _⟩ := h; rw [e]; rfl) | (obtain ⟨a, b, e, _⟩ := h; rw [e]; rfl) | (obtain ⟨a, b, c, e, _⟩ := h; rw [e]; rfl)))
/-- the built-ins that the text names are its own nowhere -/
structure Bi (mg : Str → Option Value) : Prop where
  isinstance : mg "isinstance" = none
  int : mg "int" = none
  bool : mg "bool" = none
  tuple : mg "tuple" = none
  list : mg "list" = none
  len : mg "len" = none
  zip : mg "zip" = none
  all : mg "all" = none
  range : mg "range" = none
  max : mg "max" = none
  min : mg "min" = none
  abs : mg "abs" = none
  repr : mg "repr" = none
section
variable {P : Program} {w : World} {K : PySem.W.Frag} {mg : Str → Option Value} {base : Heap} {f : Addr} {fd : FuncData} (B : Bi mg)
include B
theorem cal_is_integer (F : FnP K "is_integer" s_is_integer f fd) (hm : mg "is_integer" = some (.ref f)) : Cal P w K mg base "is_integer" 1 ["value"] (spG K (fun ds d => ∃ a, ds = [a] ∧ d = .bool (isInteger a))) :=
  cal_D F hm sc_is_integer (F.bindsN fun _ _ _ _ _ _ us hl => match us, hl with | [_], _ => rfl) (by walk_at "len") fun cdv A outer s H vs Q E hr => by
    have nd := sc_is_integer.nd
    have hu64 := hr.units
    have hu := hr.units0
    refine ⟨_, PSs.nox (pss_one (ps_ret (pe_and (pe_callB (r := rIsi K) call_isi (by rfl) B.isinstance (by decide +kernel) (pa_cons (pv 0) (pa_cons (pe_bltn (v := .ty "int") (u := .type "int") (by rfl) B.int (by decide +kernel) rfl) pa_nil))) (pe_one (pe_not (pe_callB (r := rIsi K) call_isi (by rfl) B.isinstance (by decide +kernel) (pa_cons (pv 0) (pa_cons (pe_bltn (v := .ty "bool") (u := .type "bool") (by rfl) B.bool (by decide +kernel) rfl) pa_nil)))))))), ?_⟩
    rintro M ds d hM r ⟨a, rfl, rfl⟩ q
    obtain ⟨v, rfl, ra⟩ := dpa1 r
    exact x_ret (.start hM) (by walk_at "ed") q
variable (c_is_integer : Cal P w K mg base "is_integer" 1 ["value"] (spG K fun ds d => ∃ a, ds = [a] ∧ d = .bool (isInteger a)))
include c_is_integer
theorem cal_is_within (F : FnP K "is_within" s_is_within f fd) (hm : mg "is_within" = some (.ref f)) : Cal P w K mg base "is_within" 2 ["value", "least", "most"] (spG K (fun ds d => ∃ a lo hi, ds = [a, .int lo, .int hi] ∧ d = .bool (isWithin a lo hi))) :=
  cal_D F hm sc_is_within (F.bindsN fun _ _ _ _ _ _ us hl => match us, hl with | [_, _, _], _ => rfl) (by walk_at "len") fun cdv A outer s H vs Q E hr => by
    have nd := sc_is_within.nd
    have hu64 := hr.units
    have hu := hr.units0
    refine ⟨_, PSs.nox (pss_one (ps_ret (pe_and (pe_callC c_is_integer hr (by rfl) passL (pa_cons (pv 0) pa_nil)) (pe_one (pe_chain op_leG op_leG (pv 1) (pv 0) (pv 2)))))), ?_⟩
    rintro M ds d hM r ⟨a, lo, hi, rfl, rfl⟩ q
    obtain ⟨v, v2, v3, rfl, ra, r2, r3⟩ := dpa3 r
    refine x_ret (.start hM) ((ed_and (a := isInteger a) (b := isWithin a lo hi) (by walk_at "ed") fun h => ?_).is (by cases a <;> rfl)) q
    cases a <;> first | (cases h; done) | skip
    exact ed_chain (by walk_at "ed") (by walk_at "ed") rd_le (fun _ => by walk_at "ed") (fun _ => rd_le)
omit c_is_integer
variable (c_is_within : Cal P w K mg base "is_within" 2 ["value", "least", "most"] (spG K fun ds d => ∃ a lo hi, ds = [a, .int lo, .int hi] ∧ d = .bool (isWithin a lo hi)))
variable {tB tP tS : Tok} (h_MAX_BRANCH : mg "MAX_BRANCH" = some (.int 20 tB)) (h_MAX_PLACE : mg "MAX_PLACE" = some (.int 1000000000000 tP)) (h_MAX_STAND : mg "MAX_STAND" = some (.int 1000000000000 tS))
include c_is_within h_MAX_BRANCH h_MAX_PLACE
theorem cal_is_branch (F : FnP K "is_branch" s_is_branch f fd) (hm : mg "is_branch" = some (.ref f)) : Cal P w K mg base "is_branch" 3 ["value"] (spG K (fun ds d => ∃ a, ds = [a] ∧ d = .bool (isBranch a))) :=
  cal_D F hm sc_is_branch (F.bindsN fun _ _ _ _ _ _ us hl => match us, hl with | [_], _ => rfl) (by walk_at "len") fun cdv A outer s H vs Q E hr => by
    have nd := sc_is_branch.nd
    have hu64 := hr.units
    have hu := hr.units0
    refine ⟨_, PSs.nox (pss_cons (ps_if (pw_or (pt_not (pt_val (pe_callB (r := rIsi K) call_isi (by rfl) B.isinstance (by decide +kernel) (pa_cons (pv 0) (pa_cons (pe_bltn (v := .ty "tuple") (u := .type "tuple") (by rfl) B.tuple (by decide +kernel) rfl) pa_nil))))) (pw_or1 (pt_not (pt_chain op_leG op_leG pe_int (pe_callB (r := rLenS K) call_lenS (by rfl) B.len (by decide +kernel) (pa_cons (pv 0) pa_nil)) (pe_glob (v := .int 20) (by rfl) h_MAX_BRANCH ⟨_, rfl⟩))))).pt (pss_one (ps_ret pe_bl)) pss_nil) (pss_cons (ps_for PassesOwn.never rfl (pi_seqK (K := K) rfl (pv 0)) (pg_name (i := 1) nd rfl (by first | exact Or.inl rfl | exact Or.inr rfl)) (pss_cons (ps_if (pw_or (pt_not (pt_val (pe_callB (r := rIsi K) call_isi (by rfl) B.isinstance (by decide +kernel) (pa_cons (pv 1) (pa_cons (pe_bltn (v := .ty "tuple") (u := .type "tuple") (by rfl) B.tuple (by decide +kernel) rfl) pa_nil))))) (pw_or1 (pt_cmpR (r := rNeD K) (op_neD hu64) (pe_callB (r := rLenS K) call_lenS (by rfl) B.len (by decide +kernel) (pa_cons (pv 1) pa_nil)) pe_int (nomark _)))).pt (pss_one (ps_ret pe_bl)) pss_nil) (pss_one (ps_if (pw_or (pt_not (pt_val (pe_callC c_is_within hr (by rfl) passL (pa_cons (pe_ix (r := rIx K) ix_seq (pv 1) pe_int (fun _ _ => rfl)) (pa_cons pe_int (pa_cons (pe_glob (v := .int 1000000000000) (by rfl) h_MAX_PLACE ⟨_, rfl⟩) pa_nil)))))) (pw_or1 (pt_not (pt_val (pe_callC c_is_within hr (by rfl) passL (pa_cons (pe_ix (r := rIx K) ix_seq (pv 1) pe_int (fun _ _ => rfl)) (pa_cons pe_int (pa_cons (pe_glob (v := .int 1000000000000) (by rfl) h_MAX_PLACE ⟨_, rfl⟩) pa_nil)))))))).pt (pss_one (ps_ret pe_bl)) pss_nil)))) (pss_cons (ps_if (pt_cmpR (r := rNeD K) (op_neD hu64) (pe_ix (r := rIx K) ix_seq (pv 0) pe_int (fun _ _ => rfl)) (pe_tup (pa_cons pe_int (pa_cons pe_int pa_nil))) (nomark _)) (pss_one (ps_ret pe_bl)) pss_nil) (pss_one (ps_ret (pe_callB (r := rAll K) (cr_all rfl) (by rfl) B.all (by decide +kernel) (pa_cons (pe_lc (own := [("one", 2), ("other", 3)]) (g := gTup K 2 (gCons (gName 2) (gCons (gName 3) (gNil)))) (tt := tYes) rfl nd (pi_seqK (K := K) rfl (pe_listZipK (K := K) rfl rfl (by rfl) B.list (by rfl) B.zip (pa_cons (pv 0) (pa_cons (pe_slice (r := rSlG K) sl_G (pv 0) (po_some pe_int) po_none) pa_nil)))) (blkOk_by (N := N_is_branch) (sc := defScope s_is_branch) (by decide +kernel)) (fun _ _ _ _ _ => pg_tupK (K := K) rfl rfl (pgs_cons (pg_name (i := 2) nd rfl (by first | exact Or.inl rfl | exact Or.inr rfl)) (pgs_cons (pg_name (i := 3) nd rfl (by first | exact Or.inl rfl | exact Or.inr rfl)) pgs_nil))) (fun _ _ _ _ _ => pts_nil) (fun _ _ _ _ _ => (pe_and (pe_cmpR op_ltG (pe_ix (r := rIx K) ix_seq (pv 2) pe_int (fun _ _ => rfl)) (pe_ix (r := rIx K) ix_seq (pv 3) pe_int (fun _ _ => rfl)) (nomark _)) (pe_one (pe_cmpR op_leG (pe_ix (r := rIx K) ix_seq (pv 2) pe_int (fun _ _ => rfl)) (pe_ix (r := rIx K) ix_seq (pv 3) pe_int (fun _ _ => rfl)) (nomark _)))))) pa_nil))))))), ?_⟩
    rintro M ds0 d hM r ⟨a, rfl, rfl⟩ q
    obtain ⟨v, rfl, ra⟩ := dpa1 r
    refine y_if0 (.start hM) ((eb_or (a := !isTup a) (b := !(decide (1 ≤ lenD a) && decide (lenD a ≤ 20))) (by walk_at "eb") fun h => ?_)) (fun hb H1 a1 => ?_) (fun hb H1 a1 => ?_)
    · obtain ⟨ds, rfl⟩ := isTup_of h
      walk_at "eb"
    · refine x_ret a1 ed_bl (by rw [isBranch_no hb] at q; exact q)
    obtain ⟨ds, rfl, l1, l2⟩ := branch_len hb
    refine y_forS (ds := ds) (src := .tuple ds) a1 (ed_var rfl ra) (.inr rfl) (fun G1 i σ' H' => (∃ x, σ' = [some v, x, none, none]) ∧ (ds.take i).all pairOk = true) (fun G1 H1 eG a2 => ⟨⟨_, rfl⟩, rfl⟩) (fun G1 i d x σ' H' hi eG a2 rx ⟨⟨y, e⟩, hall⟩ => ?_) (fun G1 σ' H' eG a2 ⟨⟨y, e⟩, hall⟩ => ?_)
    · subst e
      replace ra := Dpx eG ra
      show tSeq _ _ _ [some v, some x, none, none] H'
      have hm := List.mem_of_getElem? hi
      refine y_if0 a2 (eb_or (a := !isTup d) (b := !PyData.eqv (.int (lenD d)) (.int 2)) (by walk_at "eb") fun h => ?_) (fun hb H1 a3 => ?_) (fun hb H1 a3 => ?_)
      · obtain ⟨es, rfl⟩ := isTup_of h
        walk_at "eb"
      · exact x_ret a3 ed_bl (by rw [isBranch_bad hm (pairOk_no hb)] at q; exact q)
      obtain ⟨i1, i2, rfl⟩ := pairOk_len hb
      refine z_if0 a3 (b := !isWithin i1 0 1000000000000 || !isWithin i2 0 1000000000000) (by walk_at "eb") (fun hb H1 a4 => ?_) (fun hb H1 a4 => ?_)
      · have e : pairOk (.tuple [i1, i2]) = false := by
          show (isWithin i1 0 1000000000000 && isWithin i2 0 1000000000000) = false
          rw [← Bool.not_and, Bool.not_eq_true'] at hb
          exact hb
        exact x_ret a4 ed_bl (by rw [isBranch_bad hm e] at q; exact q)
      · have e : pairOk (.tuple [i1, i2]) = true := by
          show (isWithin i1 0 1000000000000 && isWithin i2 0 1000000000000) = true
          rw [← Bool.not_and, Bool.not_eq_false'] at hb
          exact hb
        exact ⟨a4, ⟨_, rfl⟩, all_take hi hall e⟩
    · subst e
      replace ra := Dpx eG ra
      rw [List.take_length] at hall
      rw [isBranch_eq l1 l2 hall] at q
      obtain ⟨b, rfl, hb⟩ := all_enc hall
      obtain ⟨p, b', rfl⟩ : ∃ p b', b = p :: b' := by
        cases b with
        | nil => cases l1
        | cons p b' => exact ⟨p, b', rfl⟩
      have hz : atI ((p :: b').map encP) 0 = some (encP p) := atI_zero
      have s1 : SeqAt.shaped (encP p) = true := sh_encP.ok
      have s2 : SeqAt.shaped (.tuple [.int 0, .int 0]) = true := (sh_encP (p := (0, 0))).ok
      refine y_if0 a2 (b := !PyData.eqv (encP p) (.tuple [.int 0, .int 0])) (by walk_at "eb") (fun hb1 H1 a3 => ?_) (fun hb1 H1 a3 => ?_)
      · exact x_ret a3 ed_bl (by
          have e : headOk ((p :: b').map encP) = false := by
            rw [List.map_cons, headOk_cons]
            rw [Bool.not_eq_true'] at hb1
            exact hb1
          rw [e] at q
          exact q)
      have e : headOk ((p :: b').map encP) = true := by
        rw [List.map_cons, headOk_cons]
        rw [Bool.not_eq_false'] at hb1
        exact hb1
      rw [e] at q
      have hz : (((List.zipWith (fun d e => PyData.tuple [d, e]) ((p :: b').map encP) (((p :: b').map encP).drop 1)).filter fun _ => true).map fun d => PyData.bool (stepT d)) = (List.zipWith stepD ((p :: b').map encP) (((p :: b').map encP).drop 1)).map .bool := by
        rw [List.filter_eq_self.mpr (fun _ _ => rfl), List.map_zipWith, List.map_zipWith]
        rfl
      have hr : ∀ G, RCD K (rAll K) G [.list ((((List.zipWith (fun d e => PyData.tuple [d, e]) ((p :: b').map encP) (((p :: b').map encP).drop 1)).filter fun _ => true).map fun d => PyData.bool (stepT d)))] (.bool (chainD ((p :: b').map encP))) := by
        intro G
        rw [hz]
        exact rc_all
      refine x_ret a3 (EvD.is (ed_cb (eda_cons (ed_lc (fun _ => true) (fun d => .bool (stepT d)) (ed_listZip (ds := (p :: b').map encP) (es := ((p :: b').map encP).drop 1) (eda_cons (ed_var rfl ra) (eda_cons (by refine' EvD.is ?k1 ?k2; (case k1 => walk_at "ed0"); (case k2 => exact congrArg PyData.tuple (cut_from (i := 1)))) eda_nil))) (.inl rfl) ?_ ?_) eda_nil) (hr _)) rfl) q
      · rw [List.length_zipWith]
        omega
      · intro d hd
        obtain ⟨i, hi⟩ := List.getElem?_of_mem hd
        rw [List.getElem?_zipWith] at hi
        split at hi
        · rename_i x1 x2 h1 h2
          obtain ⟨p1, _, rfl⟩ := List.mem_map.mp (List.mem_of_getElem? h1)
          obtain ⟨p2, _, rfl⟩ := List.mem_map.mp (List.mem_of_mem_drop (List.mem_of_getElem? h2))
          cases hi
          exact lct_pair (fun _ _ => rfl) fun x y H1 _ rx ry => ⟨eb_yes, fun _ => by walk_at "ed"⟩
        · cases hi
end
end K95
end
section
set_option Elab.async false
set_option linter.all false
set_option maxRecDepth 100000
set_option maxHeartbeats 4000000
/-! The walk: stands, branches cut, what two share. -/
namespace K95
open PySem PySem.Spec PyProof.Rows L2 Evl DL
/-! ### the reading by data, step by step: local words -/
local macro_rules | `(tactic| walk_at "fact") => `(tactic| first | assumption | rfl | omega | decide | (simp; done) | (simp; omega))
local macro_rules | `(tactic| walk_at "callR") => `(tactic| first | exact ⟨_, rfl, rfl⟩ | exact ⟨_, _, rfl, rfl⟩ | exact ⟨_, rfl, by walk_at "fact", rfl⟩ | exact ⟨_, _, rfl, by walk_at "fact", rfl⟩ | exact ⟨_, _, _, rfl, rfl⟩)
local macro_rules | `(tactic| walk_at "callX") => `(tactic| first | exact .inr ⟨_, _, rfl, by walk_at "fact", rfl⟩ | exact .inr (.inr ⟨_, _, rfl, by walk_at "fact", rfl⟩))
local macro_rules | `(tactic| walk_at "rd") => `(tactic| first
  | with_reducible exact rg_add | with_reducible exact rd_sub | with_reducible exact rd_lt | with_reducible exact rd_le | with_reducible exact rg_gt | with_reducible exact rg_gtT | with_reducible exact rd_ge
  | exact rd_ixT (by walk_at "fact") | exact rd_ixL (by walk_at "fact")
  | exact rg_catT (by walk_at "fact") | exact rg_catL (by walk_at "fact") | exact rg_catS (by walk_at "fact")
  | exact rd_eq (by walk_at "fact") (by walk_at "fact") | exact rd_ne (by walk_at "fact") (by walk_at "fact")
  | exact rd_isB | exact rd_notB | exact rd_inS | exact rd_ninS
  | exact rd_mod (by walk_at "fact") | exact rd_fdivW (by walk_at "fact") | exact rg_mul (by walk_at "fact") | exact rd_pow (by walk_at "fact"))
local macro_rules | `(tactic| walk_at "rc") => `(tactic| first
  | with_reducible exact rc_lenT | with_reducible exact rc_lenL | with_reducible exact rc_tupleL | with_reducible exact rc_listT | with_reducible exact rc_listL | with_reducible exact rc_max2 | with_reducible exact rc_min2 | with_reducible exact rc_abs | with_reducible exact rc_int | with_reducible exact rc_intB | with_reducible exact rc_reprB)
local macro_rules | `(tactic| walk_at "eda") => `(tactic| first
  | with_reducible exact eda_nil
  | ((with_reducible refine' eda_cons ?k1 ?k2); (case k1 => walk_at "ed0"); (case k2 => walk_at "eda"))
  | ((with_reducible refine' eda_starL ?k1 ?k2); (case k1 => walk_at "ed0"); (case k2 => walk_at "eda"))
  | ((with_reducible refine' eda_starT ?k1 ?k2); (case k1 => walk_at "ed0"); (case k2 => walk_at "eda")))
local macro_rules | `(tactic| walk_at "ed0") => `(tactic| first
  | with_reducible exact ed_int | with_reducible exact ed_str | with_reducible exact ed_bl | with_reducible exact ed_non
  | ((with_reducible refine' ed_var ?k1 ?k2); (case k1 => rfl); (case k2 => assumption))
  | ((with_reducible refine' ed_isi ?k1 ?k2); (case k1 => walk_at "ed0"); (case k2 => first | exact kit_int _ | exact kit_bool _ | exact kit_tup _ | exact kit_str _))
  | ((with_reducible refine' ed_op ?k1 ?k2 ?k3); (case k1 => walk_at "ed0"); (case k2 => walk_at "ed0"); (case k3 => walk_at "rd"))
  | ((with_reducible refine' ed_neg ?k1); (case k1 => walk_at "ed0"))
  | ((with_reducible refine' ed_cb ?k1 ?k2); (case k1 => walk_at "eda"); (case k2 => walk_at "rc"))
  | ((with_reducible refine' ed_call ?k1 ?k2); (case k1 => walk_at "eda"); (case k2 => walk_at "callR"))
  | ((with_reducible refine' ed_callX ?k1 ?k2); (case k1 => walk_at "eda"); (case k2 => walk_at "callX"))
  | ((with_reducible refine' ed_tup ?k1 ?k2); (case k1 => walk_at "eda"); (case k2 => walk_at "fact"))
  | ((with_reducible refine' ed_lst ?k1 ?k2); (case k1 => walk_at "eda"); (case k2 => walk_at "fact"))
  | ((with_reducible refine' ed_slT ?k1 ?k2 ?k3); (case k1 => walk_at "ed0"); (case k2 => walk_at "eo"); (case k3 => walk_at "eo"))
  | ((with_reducible refine' ed_slL ?k1 ?k2 ?k3); (case k1 => walk_at "ed0"); (case k2 => walk_at "eo"); (case k3 => walk_at "eo"))
  | ((with_reducible refine' ed_and ?k1 (fun _ => ?k2)); (case k1 => walk_at "ed0"); (case k2 => walk_at "ed0"))
  | ((with_reducible refine' ed_or ?k1 (fun _ => ?k2)); (case k1 => walk_at "ed0"); (case k2 => walk_at "ed0"))
  | ((with_reducible refine' ed_not ?k1); (case k1 => walk_at "ed0"))
  | ((with_reducible refine' ed_chain ?k1 ?k2 ?k3 (fun _ => ?k4) (fun _ => ?k5)); (case k1 => walk_at "ed0"); (case k2 => walk_at "ed0"); (case k3 => walk_at "rd"); (case k4 => walk_at "ed0"); (case k5 => walk_at "rd"))
  | ((with_reducible refine' ed_ifv ?k1 (fun _ => ?k2) (fun _ => ?k3)); (case k1 => walk_at "eb0"); (case k2 => walk_at "ed0"); (case k3 => walk_at "ed0"))
  | ((with_reducible refine' ed_listZip ?k1); (case k1 => walk_at "eda")))
local macro_rules | `(tactic| walk_at "eo") => `(tactic| first
  | with_reducible exact eo_no
  | ((with_reducible refine' eo_part ?k1); (case k1 => walk_at "ed0")))
local macro_rules | `(tactic| walk_at "eb0") => `(tactic| first
  | ((with_reducible refine' eb_and ?k1 (fun _ => ?k2)); (case k1 => walk_at "eb0"); (case k2 => walk_at "eb0"))
  | ((with_reducible refine' eb_or ?k1 (fun _ => ?k2)); (case k1 => walk_at "eb0"); (case k2 => walk_at "eb0"))
  | ((with_reducible refine' eb_not ?k1); (case k1 => walk_at "eb0"))
  | ((with_reducible refine' et_tst ?k1); (case k1 => walk_at "ed0"))
  | ((with_reducible refine' et_Bv ?k1); (case k1 => walk_at "ed0")))
local macro_rules | `(tactic| walk_at "ed") => `(tactic| (refine' EvD.is ?k1 ?k2; (case k1 => walk_at "ed0"); (case k2 => first | rfl | (simp; done))))
local macro_rules | `(tactic| walk_at "eb") => `(tactic| (refine' EvB.is ?k1 ?k2; (case k1 => walk_at "eb0"); (case k2 => first | rfl | (simp; done))))
local macro_rules | `(tactic| walk_at "len") => `(tactic| (intro ds d h; first | (obtain ⟨a, e, _⟩ := h; rw [e]; rfl) | (obtain ⟨a, b, e, _⟩ := h; rw [e]; rfl) | (obtain ⟨a, b, c, e, _⟩ := h; rw [e]; rfl)))
def fstD : PyData → PyData
  | .tuple (b :: _) => b
  | _ => .none
theorem isStand_no {a : PyData} (h : (!isTup a || (!PyData.eqv (.int (lenD a)) (.int 2) || !isBranch (fstD a))) = true) : isStand a = false := by
  cases a <;> first | rfl | skip
  rename_i ds
  match ds, h with
  | [b, p], h =>
    have h' : (!PyData.eqv (.int 2) (.int 2) || !isBranch b) = true := h
    rw [eqv_int] at h'
    have e : isBranch b = false := by simpa using h'
    show (isBranch b && _) = false
    rw [e]
    rfl
  | [], _ => rfl
  | [_], _ => rfl
  | _ :: _ :: _ :: _, _ => rfl
theorem isStand_yes {a : PyData} (h : (!isTup a || (!PyData.eqv (.int (lenD a)) (.int 2) || !isBranch (fstD a))) = false) : ∃ b p, a = .tuple [encB b, p] ∧ BrOk b := by
  cases a <;> first | (cases h; done) | skip
  rename_i ds
  have h' : (!PyData.eqv (.int (ds.length : Int)) (.int 2) || !isBranch (fstD (.tuple ds))) = false := h
  rw [Bool.or_eq_false_iff] at h'
  obtain ⟨h1, h2⟩ := h'
  obtain ⟨x, y, e⟩ := pairOk_len (d := .tuple ds) (by rw [Bool.or_eq_false_iff]; exact ⟨rfl, h1⟩)
  cases e
  have h3 : isBranch x = true := by
    have : (!isBranch x) = false := h2
    simpa using this
  obtain ⟨b, rfl, hb⟩ := isBranch_iff.mp h3
  exact ⟨b, y, rfl, hb⟩
section
variable {P : Program} {w : World} {K : PySem.W.Frag} {mg : Str → Option Value} {base : Heap} {f : Addr} {fd : FuncData} (B : Bi mg)
include B
variable (c_is_within : Cal P w K mg base "is_within" 2 ["value", "least", "most"] (spG K fun ds d => ∃ a lo hi, ds = [a, .int lo, .int hi] ∧ d = .bool (isWithin a lo hi)))
variable {tB tP tS : Tok} (h_MAX_BRANCH : mg "MAX_BRANCH" = some (.int 20 tB)) (h_MAX_PLACE : mg "MAX_PLACE" = some (.int 1000000000000 tP)) (h_MAX_STAND : mg "MAX_STAND" = some (.int 1000000000000 tS))
variable (c_is_branch : Cal P w K mg base "is_branch" 3 ["value"] (spG K fun ds d => ∃ a, ds = [a] ∧ d = .bool (isBranch a)))
include c_is_within c_is_branch h_MAX_STAND
theorem cal_is_stand (F : FnP K "is_stand" s_is_stand f fd) (hm : mg "is_stand" = some (.ref f)) : Cal P w K mg base "is_stand" 4 ["value"] (spG K (fun ds d => ∃ a, ds = [a] ∧ d = .bool (isStand a))) :=
  cal_D F hm sc_is_stand (F.bindsN fun _ _ _ _ _ _ us hl => match us, hl with | [_], _ => rfl) (by walk_at "len") fun cdv A outer s H vs Q E hr => by
    have nd := sc_is_stand.nd
    have hu64 := hr.units
    have hu := hr.units0
    refine ⟨_, PSs.nox (pss_cons (ps_if (pw_or (pt_not (pt_val (pe_callB (r := rIsi K) call_isi (by rfl) B.isinstance (by decide +kernel) (pa_cons (pv 0) (pa_cons (pe_bltn (v := .ty "tuple") (u := .type "tuple") (by rfl) B.tuple (by decide +kernel) rfl) pa_nil))))) (pw_or (pt_cmpR (r := rNeD K) (op_neD hu64) (pe_callB (r := rLenS K) call_lenS (by rfl) B.len (by decide +kernel) (pa_cons (pv 0) pa_nil)) pe_int (nomark _)) (pw_or1 (pt_not (pt_val (pe_callC c_is_branch hr (by rfl) passL (pa_cons (pe_ix (r := rIx K) ix_seq (pv 0) pe_int (fun _ _ => rfl)) pa_nil))))))).pt (pss_one (ps_ret pe_bl)) pss_nil) (pss_one (ps_ret (pe_callC c_is_within hr (by rfl) passL (pa_cons (pe_ix (r := rIx K) ix_seq (pv 0) pe_int (fun _ _ => rfl)) (pa_cons (pe_ix (r := rIx K) ix_seq (pe_ix (r := rIx K) ix_seq (pe_ix (r := rIx K) ix_seq (pv 0) pe_int (fun _ _ => rfl)) (pe_un un_neg pe_int) (fun _ _ => rfl)) pe_int (fun _ _ => rfl)) (pa_cons (pe_glob (v := .int 1000000000000) (by rfl) h_MAX_STAND ⟨_, rfl⟩) pa_nil))))))), ?_⟩
    rintro M ds0 d hM r ⟨a, rfl, rfl⟩ q
    obtain ⟨v, rfl, ra⟩ := dpa1 r
    refine y_if0 (.start hM) (eb_or (a := !isTup a) (b := !PyData.eqv (.int (lenD a)) (.int 2) || !isBranch (fstD a)) (by walk_at "eb") fun h => ?_) (fun hb H1 a1 => ?_) (fun hb H1 a1 => ?_)
    · obtain ⟨ds, rfl⟩ := isTup_of h
      refine eb_or (a := !PyData.eqv (.int (lenD (.tuple ds))) (.int 2)) (by walk_at "eb") fun h => ?_
      obtain ⟨x, y, e⟩ := pairOk_len (d := .tuple ds) (by rw [Bool.or_eq_false_iff]; exact ⟨rfl, h⟩)
      cases e
      walk_at "eb"
    · exact x_ret a1 ed_bl (by rw [isStand_no hb] at q; exact q)
    obtain ⟨b, p, rfl, hB⟩ := isStand_yes hb
    obtain ⟨c, l, e, hl⟩ := last_ex hB.pos
    have e1 : atI (b.map encP) (-1) = some (encP l) := by
      rw [e, List.map_append]
      exact atI_last
    refine x_ret a1 (EvD.is (d := .bool (isWithin p l.2 1000000000000)) (by walk_at "ed") ?_) q
    show _ = PyData.bool (isBranch (encB b) && isWithin p (lastP (encB b)) 1000000000000)
    rw [isBranch_iff.mpr ⟨b, rfl, hB⟩, lastP_enc hl]
    rfl
omit c_is_within c_is_branch h_MAX_STAND
theorem cal_pairs_up_to (F : FnP K "pairs_up_to" s_pairs_up_to f fd) (hm : mg "pairs_up_to" = some (.ref f)) : Cal P w K mg base "pairs_up_to" 1 ["branch", "place"] (spG K (fun ds d => ∃ b p, ds = [encB b, .int p] ∧ b.length ≤ 100 ∧ d = encB (upTo b p))) :=
  cal_D F hm sc_pairs_up_to (F.bindsN fun _ _ _ _ _ _ us hl => match us, hl with | [_, _], _ => rfl) (by walk_at "len") fun cdv A outer s H vs Q E hr => by
    have nd := sc_pairs_up_to.nd
    have hu64 := hr.units
    have hu := hr.units0
    refine ⟨_, PSs.nox (pss_one (ps_ret (pe_callTy (r := rTupleS K) call_tupleS (by rfl) B.tuple (by decide +kernel) (pa_cons (pe_lc (own := [("pair", 2)]) (g := gName 2) rfl nd (pi_seqK (K := K) rfl (pv 0)) (blkOk_by (N := N_pairs_up_to) (sc := defScope s_pairs_up_to) (by decide +kernel)) (fun _ _ _ _ _ => pg_name (i := 2) nd rfl (by first | exact Or.inl rfl | exact Or.inr rfl)) (fun _ _ _ _ _ => (pts_one (pt_cmpR op_leG (pe_ix (r := rIx K) ix_seq (pv 2) pe_int (fun _ _ => rfl)) (pv 1) (nomark _)))) (fun _ _ _ _ _ => (pv 2))) pa_nil)))), ?_⟩
    rintro M ds0 d hM r ⟨b, p, rfl, hl, rfl⟩ q
    obtain ⟨v, v2, rfl, ra, rp⟩ := dpa2 r
    let F : PyData → Bool := fun d => match d with | .tuple [_, .int y] => decide (y ≤ p) | _ => false
    have hf : ((b.map encP).filter F).map (fun d => d) = (upTo b p).map encP := by
      rw [List.map_id', List.filter_map]
      rfl
    refine x_ret (.start hM) (EvD.is (ed_cb (eda_cons (ed_lc F (fun d => d) (ed_var rfl ra) (.inr rfl) (by rw [List.length_map]; omega) fun d hd => ?_) eda_nil) rc_tupleL) (congrArg PyData.tuple hf)) q
    obtain ⟨y, _, rfl⟩ := List.mem_map.mp hd
    exact lct_name (fun _ => rfl) fun x H1 e1 rx => by
      replace rp := Dpx e1 rp
      unfold encP at rx
      exact ⟨by walk_at "eb", fun _ => ed_var rfl rx⟩
theorem cal_begin_at (F : FnP K "begin_at" s_begin_at f fd) (hm : mg "begin_at" = some (.ref f)) : Cal P w K mg base "begin_at" 1 ["branch", "index"] (spG K (fun ds d => ∃ b i, ds = [encB b, .int (Int.ofNat i)] ∧ d = .list ((beginAt b i).map .int))) :=
  cal_D F hm sc_begin_at (F.bindsN fun _ _ _ _ _ _ us hl => match us, hl with | [_, _], _ => rfl) (by walk_at "len") fun cdv A outer s H vs Q E hr => by
    have nd := sc_begin_at.nd
    have hu64 := hr.units
    have hu := hr.units0
    refine ⟨_, PSs.nox (pss_one (ps_ret (pe_ifExp (pt_cmpR op_ltG (pv 1) (pe_callB (r := rLenS K) call_lenS (by rfl) B.len (by decide +kernel) (pa_cons (pv 0) pa_nil)) (nomark _)) (pe_lst (pa_cons (pe_ix (r := rIx K) ix_seq (pe_ix (r := rIx K) ix_seq (pv 0) (pv 1) (fun _ _ => rfl)) pe_int (fun _ _ => rfl)) pa_nil)) (pe_lst pa_nil)))), ?_⟩
    rintro M ds0 d hM r ⟨b, i, rfl, rfl⟩ q
    obtain ⟨v, v2, rfl, ra, rp⟩ := dpa2 r
    refine x_ret (.start hM) (EvD.is (d := if decide ((i : Int) < ((b.map encP).length : Int)) = true then .list ((beginAt b i).map .int) else .list []) (ed_ifv (by walk_at "eb") (fun h => ?_) fun h => by walk_at "ed") ?_) q
    · have h1 : i < b.length := by simpa using h
      have e : atI (b.map encP) (Int.ofNat i) = some (encP b[i]) := by
        have e2 : i < (b.map encP).length := by rw [List.length_map]; exact h1
        show atI (b.map encP) (i : Int) = _
        rw [atI_nat e2]
        simp [h1]
      have e3 : beginAt b i = [b[i].2] := by
        unfold beginAt
        rw [List.getElem?_eq_getElem h1]
      rw [e3]
      walk_at "ed"
    · by_cases h1 : i < b.length
      · rw [if_pos (by simpa using h1)]
      · rw [if_neg (by simpa using h1)]
        have e3 : beginAt b i = [] := by
          unfold beginAt
          rw [List.getElem?_eq_none (by omega)]
        rw [e3]
        rfl
variable (c_begin_at : Cal P w K mg base "begin_at" 1 ["branch", "index"] (spG K fun ds d => ∃ b i, ds = [encB b, .int (Int.ofNat i)] ∧ d = .list ((beginAt b i).map .int)))
include c_begin_at
theorem cal_limits_in (F : FnP K "limits_in" s_limits_in f fd) (hm : mg "limits_in" = some (.ref f)) : Cal P w K mg base "limits_in" 2 ["one", "other"] (spG K (fun ds d => ∃ a b, ds = [encB a, encB b] ∧ (a.length ≤ 100 ∧ b.length ≤ 100) ∧ d = .list ((limitsIn a b).map .int))) :=
  cal_D F hm sc_limits_in (F.bindsN fun _ _ _ _ _ _ us hl => match us, hl with | [_, _], _ => rfl) (by walk_at "len") fun cdv A outer s H vs Q E hr => by
    have nd := sc_limits_in.nd
    have hu64 := hr.units
    have hu := hr.units0
    refine ⟨_, PSs.nox (pss_cons (ps_for PassesOwn.never rfl (pi_range1 (by rfl) B.range (pa_cons (pe_callB (call_max2' rfl) (by rfl) B.max (by decide +kernel) (pa_cons (pe_callB (r := rLenS K) call_lenS (by rfl) B.len (by decide +kernel) (pa_cons (pv 0) pa_nil)) (pa_cons (pe_callB (r := rLenS K) call_lenS (by rfl) B.len (by decide +kernel) (pa_cons (pv 1) pa_nil)) pa_nil))) pa_nil)) (pg_name (i := 2) nd rfl (by first | exact Or.inl rfl | exact Or.inr rfl)) (pss_one (ps_if (pt_cmpR (r := rNeD K) (op_neD hu64) (pe_slice (r := rSlG K) sl_G (pv 0) (po_some (pv 2)) (po_some (pe_op (r := rAddG K) op_addG (pv 2) pe_int))) (pe_slice (r := rSlG K) sl_G (pv 1) (po_some (pv 2)) (po_some (pe_op (r := rAddG K) op_addG (pv 2) pe_int))) (nomark _)) (pss_one (ps_ret (pe_lst (pa_cons (pe_callB (r := rMin K) (cr_min rfl) (by rfl) B.min (by decide +kernel) (pa_cons (pe_lst (pa_starK (K := K) rfl (pe_callC c_begin_at hr (by rfl) passL (pa_cons (pv 0) (pa_cons (pv 2) pa_nil))) (pa_starK (K := K) rfl (pe_callC c_begin_at hr (by rfl) passL (pa_cons (pv 1) (pa_cons (pv 2) pa_nil))) pa_nil))) pa_nil)) pa_nil)))) pss_nil))) (pss_one (ps_ret (pe_lst pa_nil)))), ?_⟩
    rintro M ds0 d hM r ⟨a, b, rfl, ⟨la, lb⟩, rfl⟩ q
    obtain ⟨v, v2, rfl, ra, rb⟩ := dpa2 r
    refine y_forR (n := max ((a.map encP).length : Int) ((b.map encP).length : Int)) (.start hM) (by walk_at "eda") (by rw [List.length_map, List.length_map]; omega) (fun i σ' H' => (∃ x, σ' = [some v, some v2, x]) ∧ a.take i = b.take i) (fun H1 a1 => ⟨⟨_, rfl⟩, rfl⟩) (fun i σ' H' hi a1 ⟨⟨y, e⟩, ht⟩ => ?_) (fun σ' H' a1 ⟨⟨y, e⟩, ht⟩ => ?_)
    · subst e
      show tIfS _ _ _ _ [some v, some v2, some (.int (i : Int))] H'
      have s1 : SeqAt.shaped (.tuple (cutD (a.map encP) (some (i : Int)) (some ((i : Int) + 1)))) = true := by rw [cut_enc]; exact sh_encB.ok
      have s2 : SeqAt.shaped (.tuple (cutD (b.map encP) (some (i : Int)) (some ((i : Int) + 1)))) = true := by rw [cut_enc]; exact sh_encB.ok
      have ri : Dp K (hid M H) (.int (i : Int)) (.int (i : Int)) := .int _
      have eb : (!PyData.eqv (.tuple (cutD (a.map encP) (some (i : Int)) (some ((i : Int) + 1)))) (.tuple (cutD (b.map encP) (some (i : Int)) (some ((i : Int) + 1))))) = !decide ((a.drop i).take 1 = (b.drop i).take 1) := by
        rw [cut_enc, cut_enc, eqv_tup, eqva_encB]
      refine z_if0 a1 (EvB.is (by walk_at "eb0") eb) (fun hb H1 a3 => ?_) (fun hb H1 a3 => ?_)
      · have hne : (a.drop i).take 1 ≠ (b.drop i).take 1 := by simpa using hb
        obtain ⟨m, e1, e2, e3⟩ := limits_at ht hne
        have hr : ∀ G, RCD K (rMin K) G [.list ((beginAt a i).map .int ++ ((beginAt b i).map .int ++ []))] (.int m) := by
          intro G
          rw [List.append_nil, ← List.map_append]
          exact rc_min e2 e3
        have hlen : ((beginAt a i).map PyData.int ++ ((beginAt b i).map PyData.int ++ [])).length ≤ 100000 := by
          unfold beginAt
          cases a[i]? <;> cases b[i]? <;> simp
        refine x_ret a3 (EvD.is (ed_lst (eda_cons (ed_cb (eda_cons (by walk_at "ed0") eda_nil) (hr _)) eda_nil) (by simp)) (by rw [e1]; rfl)) q
      · have he : (a.drop i).take 1 = (b.drop i).take 1 := by simpa using hb
        exact ⟨a3, ⟨_, rfl⟩, take_next ht he⟩
    · subst e
      have e : a = b := take_full ht (by rw [List.length_map, List.length_map]; omega) (by rw [List.length_map, List.length_map]; omega)
      rw [e, limits_self] at q
      exact x_ret a1 (by walk_at "ed") q
omit c_begin_at
variable (c_limits_in : Cal P w K mg base "limits_in" 2 ["one", "other"] (spG K fun ds d => ∃ a b, ds = [encB a, encB b] ∧ (a.length ≤ 100 ∧ b.length ≤ 100) ∧ d = .list ((limitsIn a b).map .int)))
include c_limits_in
theorem cal_shared_in (F : FnP K "shared_in" s_shared_in f fd) (hm : mg "shared_in" = some (.ref f)) : Cal P w K mg base "shared_in" 3 ["one", "other"] (spG K (fun ds d => ∃ s t, ds = [encS s, encS t] ∧ (s.1.length ≤ 100 ∧ t.1.length ≤ 100) ∧ d = .int (sharedIn s t))) :=
  cal_D F hm sc_shared_in (F.bindsN fun _ _ _ _ _ _ us hl => match us, hl with | [_, _], _ => rfl) (by walk_at "len") fun cdv A outer s H vs Q E hr => by
    have nd := sc_shared_in.nd
    have hu64 := hr.units
    have hu := hr.units0
    refine ⟨_, PSs.nox (pss_one (ps_ret (pe_callB (r := rMin K) (cr_min rfl) (by rfl) B.min (by decide +kernel) (pa_cons (pe_lst (pa_cons (pe_ix (r := rIx K) ix_seq (pv 0) pe_int (fun _ _ => rfl)) (pa_cons (pe_ix (r := rIx K) ix_seq (pv 1) pe_int (fun _ _ => rfl)) (pa_starK (K := K) rfl (pe_callC c_limits_in hr (by rfl) passL (pa_cons (pe_ix (r := rIx K) ix_seq (pv 0) pe_int (fun _ _ => rfl)) (pa_cons (pe_ix (r := rIx K) ix_seq (pv 1) pe_int (fun _ _ => rfl)) pa_nil))) pa_nil)))) pa_nil)))), ?_⟩
    rintro M ds0 d hM r ⟨s, t, rfl, hl, rfl⟩ q
    obtain ⟨v, v2, rfl, ra, rb⟩ := dpa2 r
    obtain ⟨e2, e3⟩ := shared_min s t
    have hr : ∀ G, RCD K (rMin K) G [.list (.int s.2 :: .int t.2 :: ((limitsIn s.1 t.1).map .int ++ []))] (.int (sharedIn s t)) := by
      intro G
      have e : (PyData.int s.2 :: .int t.2 :: ((limitsIn s.1 t.1).map .int ++ [])) = (s.2 :: t.2 :: limitsIn s.1 t.1).map .int := by simp
      rw [e]
      exact rc_min e2 e3
    refine x_ret (.start hM) (ed_cb (eda_cons (ed_lst (by walk_at "eda") ?_) eda_nil) (hr _)) q
    rcases limits_short s.1 t.1 with e | ⟨m, e⟩ <;> rw [e] <;> simp
end
end K95
end
section
set_option Elab.async false
set_option linter.all false
set_option maxRecDepth 100000
set_option maxHeartbeats 4000000
/-! The walk: what asks for stands, and raises. -/
namespace K95
open PySem PySem.Spec PyProof.Rows L2 Evl DL
/-! ### the reading by data, step by step: local words -/
local macro_rules | `(tactic| walk_at "fact") => `(tactic| first | assumption | rfl | omega | decide | (simp; done) | (simp; omega))
local macro_rules | `(tactic| walk_at "callR") => `(tactic| first | exact ⟨_, rfl, rfl⟩ | exact ⟨_, _, rfl, rfl⟩ | exact ⟨_, rfl, by walk_at "fact", rfl⟩ | exact ⟨_, _, rfl, by walk_at "fact", rfl⟩ | exact ⟨_, _, _, rfl, rfl⟩)
local macro_rules | `(tactic| walk_at "callX") => `(tactic| first | exact .inr ⟨_, _, rfl, by walk_at "fact", rfl⟩ | exact .inr (.inr ⟨_, _, rfl, by walk_at "fact", rfl⟩))
local macro_rules | `(tactic| walk_at "rd") => `(tactic| first
  | with_reducible exact rg_add | with_reducible exact rd_sub | with_reducible exact rd_lt | with_reducible exact rd_le | with_reducible exact rg_gt | with_reducible exact rg_gtT | with_reducible exact rd_ge
  | exact rd_ixT (by walk_at "fact") | exact rd_ixL (by walk_at "fact")
  | exact rg_catT (by walk_at "fact") | exact rg_catL (by walk_at "fact") | exact rg_catS (by walk_at "fact")
  | exact rd_eq (by walk_at "fact") (by walk_at "fact") | exact rd_ne (by walk_at "fact") (by walk_at "fact")
  | exact rd_isB | exact rd_notB | exact rd_inS | exact rd_ninS
  | exact rd_mod (by walk_at "fact") | exact rd_fdivW (by walk_at "fact") | exact rg_mul (by walk_at "fact") | exact rd_pow (by walk_at "fact"))
local macro_rules | `(tactic| walk_at "rc") => `(tactic| first
  | with_reducible exact rc_lenT | with_reducible exact rc_lenL | with_reducible exact rc_tupleL | with_reducible exact rc_listT | with_reducible exact rc_listL | with_reducible exact rc_max2 | with_reducible exact rc_min2 | with_reducible exact rc_abs | with_reducible exact rc_int | with_reducible exact rc_intB | with_reducible exact rc_reprB)
local macro_rules | `(tactic| walk_at "eda") => `(tactic| first
  | with_reducible exact eda_nil
  | ((with_reducible refine' eda_cons ?k1 ?k2); (case k1 => walk_at "ed0"); (case k2 => walk_at "eda"))
  | ((with_reducible refine' eda_starL ?k1 ?k2); (case k1 => walk_at "ed0"); (case k2 => walk_at "eda"))
  | ((with_reducible refine' eda_starT ?k1 ?k2); (case k1 => walk_at "ed0"); (case k2 => walk_at "eda")))
local macro_rules | `(tactic| walk_at "ed0") => `(tactic| first
  | with_reducible exact ed_int | with_reducible exact ed_str | with_reducible exact ed_bl | with_reducible exact ed_non
  | ((with_reducible refine' ed_var ?k1 ?k2); (case k1 => rfl); (case k2 => assumption))
  | ((with_reducible refine' ed_isi ?k1 ?k2); (case k1 => walk_at "ed0"); (case k2 => first | exact kit_int _ | exact kit_bool _ | exact kit_tup _ | exact kit_str _))
  | ((with_reducible refine' ed_op ?k1 ?k2 ?k3); (case k1 => walk_at "ed0"); (case k2 => walk_at "ed0"); (case k3 => walk_at "rd"))
  | ((with_reducible refine' ed_neg ?k1); (case k1 => walk_at "ed0"))
  | ((with_reducible refine' ed_cb ?k1 ?k2); (case k1 => walk_at "eda"); (case k2 => walk_at "rc"))
  | ((with_reducible refine' ed_call ?k1 ?k2); (case k1 => walk_at "eda"); (case k2 => walk_at "callR"))
  | ((with_reducible refine' ed_callX ?k1 ?k2); (case k1 => walk_at "eda"); (case k2 => walk_at "callX"))
  | ((with_reducible refine' ed_tup ?k1 ?k2); (case k1 => walk_at "eda"); (case k2 => walk_at "fact"))
  | ((with_reducible refine' ed_lst ?k1 ?k2); (case k1 => walk_at "eda"); (case k2 => walk_at "fact"))
  | ((with_reducible refine' ed_slT ?k1 ?k2 ?k3); (case k1 => walk_at "ed0"); (case k2 => walk_at "eo"); (case k3 => walk_at "eo"))
  | ((with_reducible refine' ed_slL ?k1 ?k2 ?k3); (case k1 => walk_at "ed0"); (case k2 => walk_at "eo"); (case k3 => walk_at "eo"))
  | ((with_reducible refine' ed_and ?k1 (fun _ => ?k2)); (case k1 => walk_at "ed0"); (case k2 => walk_at "ed0"))
  | ((with_reducible refine' ed_or ?k1 (fun _ => ?k2)); (case k1 => walk_at "ed0"); (case k2 => walk_at "ed0"))
  | ((with_reducible refine' ed_not ?k1); (case k1 => walk_at "ed0"))
  | ((with_reducible refine' ed_chain ?k1 ?k2 ?k3 (fun _ => ?k4) (fun _ => ?k5)); (case k1 => walk_at "ed0"); (case k2 => walk_at "ed0"); (case k3 => walk_at "rd"); (case k4 => walk_at "ed0"); (case k5 => walk_at "rd"))
  | ((with_reducible refine' ed_ifv ?k1 (fun _ => ?k2) (fun _ => ?k3)); (case k1 => walk_at "eb0"); (case k2 => walk_at "ed0"); (case k3 => walk_at "ed0"))
  | ((with_reducible refine' ed_listZip ?k1); (case k1 => walk_at "eda")))
local macro_rules | `(tactic| walk_at "eo") => `(tactic| first
  | with_reducible exact eo_no
  | ((with_reducible refine' eo_part ?k1); (case k1 => walk_at "ed0")))
local macro_rules | `(tactic| walk_at "eb0") => `(tactic| first
  | ((with_reducible refine' eb_and ?k1 (fun _ => ?k2)); (case k1 => walk_at "eb0"); (case k2 => walk_at "eb0"))
  | ((with_reducible refine' eb_or ?k1 (fun _ => ?k2)); (case k1 => walk_at "eb0"); (case k2 => walk_at "eb0"))
  | ((with_reducible refine' eb_not ?k1); (case k1 => walk_at "eb0"))
  | ((with_reducible refine' et_tst ?k1); (case k1 => walk_at "ed0"))
  | ((with_reducible refine' et_Bv ?k1); (case k1 => walk_at "ed0")))
local macro_rules | `(tactic| walk_at "ed") => `(tactic| (refine' EvD.is ?k1 ?k2; (case k1 => walk_at "ed0"); (case k2 => first | rfl | (simp; done))))
local macro_rules | `(tactic| walk_at "eb") => `(tactic| (refine' EvB.is ?k1 ?k2; (case k1 => walk_at "eb0"); (case k2 => first | rfl | (simp; done))))
local macro_rules | `(tactic| walk_at "len") => `(tactic| (intro ds d h; first | (obtain ⟨a, e, _⟩ := h; rw [e]; rfl; done) | (obtain ⟨a, b, e, _⟩ := h; (rw [e]; rfl); done) | (obtain ⟨a, b, c, e, _⟩ := h; (rw [e]; rfl); done) | (rcases h with ⟨a, b, e, _⟩ | ⟨a, b, e, _⟩ | ⟨a, b, e, _⟩ <;> (rw [e]; rfl); done) | (rcases h with ⟨a, b, e, _⟩ | ⟨a, b, e, _⟩ <;> (rw [e]; rfl); done)))
section
variable {P : Program} {w : World} {K : PySem.W.Frag} {mg : Str → Option Value} {base : Heap} {f : Addr} {fd : FuncData} (B : Bi mg) {C CN fN : Addr}
variable (o_InvalidOperation : OwnE K mg "InvalidOperation" C)
variable (c_is_stand : Cal P w K mg base "is_stand" 4 ["value"] (spG K fun ds d => ∃ a, ds = [a] ∧ d = .bool (isStand a)))
include o_InvalidOperation c_is_stand
theorem cal_require_stand (F : FnP K "require_stand" s_require_stand f fd) (hm : mg "require_stand" = some (.ref f)) : Cal P w K mg base "require_stand" 5 ["value"] (spX K (fun ds o => ∃ a, ds = [a] ∧ o = if isStand a = true then .ok .none else .err (.ref C))) :=
  cal_X F hm sc_require_stand (F.bindsN fun _ _ _ _ _ _ us hl => match us, hl with | [_], _ => rfl) (by walk_at "len") fun cdv A outer s H vs Q E hr => by
    have nd := sc_require_stand.nd
    have hu64 := hr.units
    have hu := hr.units0
    refine ⟨_, (pss_one (ps_if (pt_not (pt_val (pe_callC c_is_stand hr (by rfl) passL (pa_cons (pv 0) pa_nil)))) (pss_one (ps_raiseOwn rfl o_InvalidOperation (takes_of rfl rfl rfl rfl) rfl)) pss_nil)), ?_⟩
    rintro M ds o hM r ⟨a, rfl, rfl⟩ q
    obtain ⟨v, rfl, ra⟩ := dpa1 r
    refine z_if0 (.start hM) (b := !isStand a) (by walk_at "eb") (fun hb H1 a1 => ?_) (fun hb H1 a1 => ?_)
    · have e : isStand a = false := by simpa using hb
      rw [e] at q
      exact q H1 a1.j
    · have e : isStand a = true := by simpa using hb
      rw [e] at q
      exact q .non H1 a1.j .non
omit c_is_stand
variable (c_require_stand : Cal P w K mg base "require_stand" 5 ["value"] (spX K fun ds o => ∃ a, ds = [a] ∧ o = if isStand a = true then .ok .none else .err (.ref C)))
include c_require_stand
theorem cal_require_stands (F : FnP K "require_stands" s_require_stands f fd) (hm : mg "require_stands" = some (.ref f)) : Cal P w K mg base "require_stands" 6 ["one", "other"] (spX K (fun ds o => ∃ a b, ds = [a, b] ∧ o = if isStand a = true ∧ isStand b = true then .ok .none else .err (.ref C))) :=
  cal_X F hm sc_require_stands (F.bindsN fun _ _ _ _ _ _ us hl => match us, hl with | [_, _], _ => rfl) (by walk_at "len") fun cdv A outer s H vs Q E hr => by
    have nd := sc_require_stands.nd
    have hu64 := hr.units
    have hu := hr.units0
    refine ⟨_, (pss_cons (ps_expr (pe_callC c_require_stand hr (by rfl) (passes_call (takes_of rfl rfl rfl rfl) (fun _ _ _ _ h => h)) (pa_cons (pv 0) pa_nil))) (pss_one (ps_expr (pe_callC c_require_stand hr (by rfl) (passes_call (takes_of rfl rfl rfl rfl) (fun _ _ _ _ h => h)) (pa_cons (pv 1) pa_nil))))), ?_⟩
    rintro M ds o hM r ⟨a, b, rfl, rfl⟩ q
    obtain ⟨v, v2, rfl, ra, rb⟩ := dpa2 r
    refine y_dropX (.start hM) (by walk_at "eda") ⟨_, rfl, rfl⟩ (fun H1 a1 => ?_)
    cases ha : isStand a with
    | false =>
      rw [ha] at q
      exact fun H' e => q H' (a1.j.trans e)
    | true =>
      rw [ha] at q
      rw [if_pos rfl]
      intro v' H2 e2 _
      refine x_dropX (a1.step e2) (by walk_at "eda") ⟨_, rfl, rfl⟩ (fun H3 a3 => ?_)
      cases hb : isStand b with
      | false =>
        rw [hb] at q
        exact fun H' e => q H' (a3.j.trans e)
      | true =>
        rw [hb] at q
        exact fun v4 H4 e4 _ => q .non H4 (a3.j.trans e4) .non
variable (c_require_stands : Cal P w K mg base "require_stands" 6 ["one", "other"] (spX K fun ds o => ∃ a b, ds = [a, b] ∧ o = if isStand a = true ∧ isStand b = true then .ok .none else .err (.ref C)))
variable (c_shared_in : Cal P w K mg base "shared_in" 3 ["one", "other"] (spG K fun ds d => ∃ s t, ds = [encS s, encS t] ∧ (s.1.length ≤ 100 ∧ t.1.length ≤ 100) ∧ d = .int (sharedIn s t)))
omit c_require_stand
include c_require_stands c_shared_in
theorem cal_shared_place (F : FnP K "shared_place" s_shared_place f fd) (hm : mg "shared_place" = some (.ref f)) : Cal P w K mg base "shared_place" 7 ["one", "other"] (spX K (fun ds o => (∃ a b, ds = [a, b] ∧ ¬ (isStand a = true ∧ isStand b = true) ∧ o = .err (.ref C)) ∨ (∃ s t, ds = [encS s, encS t] ∧ (StOk s ∧ StOk t) ∧ o = .ok (.int (sharedIn s t))))) :=
  cal_X F hm sc_shared_place (F.bindsN fun _ _ _ _ _ _ us hl => match us, hl with | [_, _], _ => rfl) (by walk_at "len") fun cdv A outer s H vs Q E hr => by
    have nd := sc_shared_place.nd
    have hu64 := hr.units
    have hu := hr.units0
    refine ⟨_, (pss_cons (ps_expr (pe_callC c_require_stands hr (by rfl) (passes_call (takes_of rfl rfl rfl rfl) (fun _ _ _ _ h => h)) (pa_cons (pv 0) (pa_cons (pv 1) pa_nil)))) (pss_one (ps_ret (pe_callC c_shared_in hr (by rfl) passL (pa_cons (pv 0) (pa_cons (pv 1) pa_nil)))))), ?_⟩
    rintro M ds o hM r (⟨a, b, rfl, hn, rfl⟩ | ⟨s, t, rfl, ⟨hs, ht⟩, rfl⟩) q
    · obtain ⟨v, v2, rfl, ra, rb⟩ := dpa2 r
      refine y_dropX (.start hM) (by walk_at "eda") ⟨_, _, rfl, (if_neg hn).symm⟩ (fun H1 a1 => ?_)
      exact fun H' e => q H' (a1.j.trans e)
    · obtain ⟨v, v2, rfl, ra, rb⟩ := dpa2 r
      have l1 := hs.br.len
      have l2 := ht.br.len
      have l3 : s.1.length ≤ 100 ∧ t.1.length ≤ 100 := ⟨by omega, by omega⟩
      refine y_dropX (.start hM) (by walk_at "eda") ⟨_, _, rfl, (if_pos ⟨isStand_iff.mpr ⟨s, rfl, hs⟩, isStand_iff.mpr ⟨t, rfl, ht⟩⟩).symm⟩ (fun H1 a1 => ?_)
      exact fun v' H2 e2 _ => x_ret (a1.step e2) (by walk_at "ed") q
theorem cal_judged (F : FnP K "judged" s_judged f fd) (hm : mg "judged" = some (.ref f)) : Cal P w K mg base "judged" 7 ["one", "other"] (spX K (fun ds o => (∃ a b, ds = [a, b] ∧ ¬ (isStand a = true ∧ isStand b = true) ∧ o = .err (.ref C)) ∨ (∃ s t, ds = [encS s, encS t] ∧ (StOk s ∧ StOk t) ∧ o = .ok (.tuple [.str (judgeW s t), .int (sharedIn s t)])))) :=
  cal_X F hm sc_judged (F.bindsN fun _ _ _ _ _ _ us hl => match us, hl with | [_, _], _ => rfl) (by walk_at "len") fun cdv A outer s H vs Q E hr => by
    have nd := sc_judged.nd
    have hu64 := hr.units
    have hu := hr.units0
    refine ⟨_, (pss_cons (ps_expr (pe_callC c_require_stands hr (by rfl) (passes_call (takes_of rfl rfl rfl rfl) (fun _ _ _ _ h => h)) (pa_cons (pv 0) (pa_cons (pv 1) pa_nil)))) (pss_cons (ps_set (i := 2) nd rfl (by first | exact Or.inl rfl | exact Or.inr rfl) (pe_callC c_shared_in hr (by rfl) passL (pa_cons (pv 0) (pa_cons (pv 1) pa_nil)))) (pss_cons (ps_if (pw_and (pt_cmpR (r := rEqD K) (op_eqD hu64) (pe_ix (r := rIx K) ix_seq (pv 0) pe_int (fun _ _ => rfl)) (pv 2) (nomark _)) (pw_and1 (pt_cmpR (r := rEqD K) (op_eqD hu64) (pe_ix (r := rIx K) ix_seq (pv 1) pe_int (fun _ _ => rfl)) (pv 2) (nomark _)))).pt (pss_one (ps_ret (pe_tup (pa_cons pe_str (pa_cons (pv 2) pa_nil))))) pss_nil) (pss_cons (ps_if (pt_cmpR (r := rEqD K) (op_eqD hu64) (pe_ix (r := rIx K) ix_seq (pv 0) pe_int (fun _ _ => rfl)) (pv 2) (nomark _)) (pss_one (ps_ret (pe_tup (pa_cons pe_str (pa_cons (pv 2) pa_nil))))) pss_nil) (pss_one (ps_ret (pe_tup (pa_cons (pe_ifExp (pt_cmpR (r := rEqD K) (op_eqD hu64) (pe_ix (r := rIx K) ix_seq (pv 1) pe_int (fun _ _ => rfl)) (pv 2) (nomark _)) pe_str pe_str) (pa_cons (pv 2) pa_nil))))))))), ?_⟩
    rintro M ds o hM r (⟨a, b, rfl, hn, rfl⟩ | ⟨s, t, rfl, ⟨hs, ht⟩, rfl⟩) q
    · obtain ⟨v, v2, rfl, ra, rb⟩ := dpa2 r
      refine y_dropX (.start hM) (by walk_at "eda") ⟨_, _, rfl, (if_neg hn).symm⟩ (fun H1 a1 => ?_)
      exact fun H' e => q H' (a1.j.trans e)
    · obtain ⟨v, v2, rfl, ra, rb⟩ := dpa2 r
      have l1 := hs.br.len
      have l2 := ht.br.len
      have l3 : s.1.length ≤ 100 ∧ t.1.length ≤ 100 := ⟨by omega, by omega⟩
      refine y_dropX (.start hM) (by walk_at "eda") ⟨_, _, rfl, (if_pos ⟨isStand_iff.mpr ⟨s, rfl, hs⟩, isStand_iff.mpr ⟨t, rfl, ht⟩⟩).symm⟩ (fun H1 a1 => ?_)
      intro v' H2 e2 _
      refine y_asgI (n := sharedIn s t) (a1.step e2) (by walk_at "ed") (fun H3 a3 => ?_)
      have rs : Dp K (hid M H) (.int (sharedIn s t)) (.int (sharedIn s t)) := .int _
      have f1 : SeqAt.shaped (.int s.2) = true := sh_int.ok
      have f2 : SeqAt.shaped (.int t.2) = true := sh_int.ok
      have f3 : SeqAt.shaped (.int (sharedIn s t)) = true := sh_int.ok
      refine y_if0 a3 (b := decide (s.2 = sharedIn s t) && decide (t.2 = sharedIn s t)) (by rw [← eqv_int, ← eqv_int]; walk_at "eb") (fun hb H4 a4 => ?_) (fun hb H4 a4 => ?_)
      · have e : judgeW s t = "alike" := if_pos (by simpa using hb)
        rw [e] at q
        exact x_ret a4 (by walk_at "ed") q
      have n1 : ¬ (s.2 = sharedIn s t ∧ t.2 = sharedIn s t) := by simpa using hb
      refine y_if0 a4 (b := decide (s.2 = sharedIn s t)) (by rw [← eqv_int]; walk_at "eb") (fun hb2 H5 a5 => ?_) (fun hb2 H5 a5 => ?_)
      · have e : judgeW s t = "behind" := by
          unfold judgeW
          rw [if_neg n1, if_pos (by simpa using hb2)]
        rw [e] at q
        exact x_ret a5 (by walk_at "ed") q
      · have e : judgeW s t = (if t.2 = sharedIn s t then ("ahead" : Str) else ("parted" : Str)) := by
          unfold judgeW
          rw [if_neg n1, if_neg (by simpa using hb2)]
        rw [e] at q
        refine x_ret a5 (EvD.is (d := .tuple [if PyData.eqv (.int t.2) (.int (sharedIn s t)) = true then .str "ahead" else .str "parted", .int (sharedIn s t)]) (by walk_at "ed") ?_) q
        rw [eqv_int]
        by_cases h : t.2 = sharedIn s t
        · rw [if_pos h, if_pos (decide_eq_true h)]
        · rw [if_neg h, if_neg (by simpa using h)]
theorem cal_is_later (F : FnP K "is_later" s_is_later f fd) (hm : mg "is_later" = some (.ref f)) : Cal P w K mg base "is_later" 7 ["one", "other"] (spX K (fun ds o => (∃ a b, ds = [a, b] ∧ ¬ (isStand a = true ∧ isStand b = true) ∧ o = .err (.ref C)) ∨ (∃ s t, ds = [encS s, encS t] ∧ (StOk s ∧ StOk t) ∧ o = .ok (.bool (laterS s t))))) :=
  cal_X F hm sc_is_later (F.bindsN fun _ _ _ _ _ _ us hl => match us, hl with | [_, _], _ => rfl) (by walk_at "len") fun cdv A outer s H vs Q E hr => by
    have nd := sc_is_later.nd
    have hu64 := hr.units
    have hu := hr.units0
    refine ⟨_, (pss_cons (ps_expr (pe_callC c_require_stands hr (by rfl) (passes_call (takes_of rfl rfl rfl rfl) (fun _ _ _ _ h => h)) (pa_cons (pv 0) (pa_cons (pv 1) pa_nil)))) (pss_one (ps_ret (pe_cmpR (r := rGtG K) (op_gtG hu) (pe_tup (pa_cons (pe_ix (r := rIx K) ix_seq (pe_ix (r := rIx K) ix_seq (pe_ix (r := rIx K) ix_seq (pv 0) pe_int (fun _ _ => rfl)) (pe_un un_neg pe_int) (fun _ _ => rfl)) pe_int (fun _ _ => rfl)) (pa_cons (pe_ix (r := rIx K) ix_seq (pv 0) pe_int (fun _ _ => rfl)) pa_nil))) (pe_tup (pa_cons (pe_ix (r := rIx K) ix_seq (pe_ix (r := rIx K) ix_seq (pe_ix (r := rIx K) ix_seq (pv 1) pe_int (fun _ _ => rfl)) (pe_un un_neg pe_int) (fun _ _ => rfl)) pe_int (fun _ _ => rfl)) (pa_cons (pe_ix (r := rIx K) ix_seq (pv 1) pe_int (fun _ _ => rfl)) pa_nil))) (nomark _))))), ?_⟩
    rintro M ds o hM r (⟨a, b, rfl, hn, rfl⟩ | ⟨s, t, rfl, ⟨hs, ht⟩, rfl⟩) q
    · obtain ⟨v, v2, rfl, ra, rb⟩ := dpa2 r
      refine y_dropX (.start hM) (by walk_at "eda") ⟨_, _, rfl, (if_neg hn).symm⟩ (fun H1 a1 => ?_)
      exact fun H' e => q H' (a1.j.trans e)
    · obtain ⟨v, v2, rfl, ra, rb⟩ := dpa2 r
      refine y_dropX (.start hM) (by walk_at "eda") ⟨_, _, rfl, (if_pos ⟨isStand_iff.mpr ⟨s, rfl, hs⟩, isStand_iff.mpr ⟨t, rfl, ht⟩⟩).symm⟩ (fun H1 a1 => ?_)
      intro v' H2 e2 _
      obtain ⟨c1, l1, e1, g1⟩ := last_ex hs.br.pos
      obtain ⟨c2, l2, e2', g2⟩ := last_ex ht.br.pos
      have i1 : atI (s.1.map encP) (-1) = some (encP l1) := by
        rw [e1, List.map_append]
        exact atI_last
      have i2 : atI (t.1.map encP) (-1) = some (encP l2) := by
        rw [e2', List.map_append]
        exact atI_last
      refine x_ret (a1.step e2) (EvD.is (by walk_at "ed0") ?_) q
      unfold laterS
      rw [g1, g2]
variable {fI : Addr} (hP : P = PySem.Challenge.pw_deedline_k95_whole_stands_judged_by_thei) (o_InvalidNumber : SupX.SupF P K mg "InvalidNumber" "value" "ArithmeticError" "ArithmeticError.__new__" "ArithmeticError.__init__" [.type "ArithmeticError", .type "Exception", .type "BaseException", .type "object"] CN fI)
variable (c_require_stand : Cal P w K mg base "require_stand" 5 ["value"] (spX K fun ds o => ∃ a, ds = [a] ∧ o = if isStand a = true then .ok .none else .err (.ref C)))
variable (c_is_within : Cal P w K mg base "is_within" 2 ["value", "least", "most"] (spG K fun ds d => ∃ a lo hi, ds = [a, .int lo, .int hi] ∧ d = .bool (isWithin a lo hi)))
variable (c_pairs_up_to : Cal P w K mg base "pairs_up_to" 1 ["branch", "place"] (spG K fun ds d => ∃ b p, ds = [encB b, .int p] ∧ b.length ≤ 100 ∧ d = encB (upTo b p)))
omit c_require_stands c_shared_in
include o_InvalidNumber c_require_stand c_is_within c_pairs_up_to
theorem cal_cut (F : FnP K "cut" s_cut f fd) (hm : mg "cut" = some (.ref f)) : Cal P w K mg base "cut" 6 ["stand", "place"] (spX K (fun ds o => (∃ a p, ds = [a, p] ∧ isStand a = false ∧ o = .err (.ref C)) ∨ (∃ s p, ds = [encS s, p] ∧ (StOk s ∧ isWithin p 0 s.2 = false) ∧ o = .errV (.ref CN) "value" p) ∨ (∃ s i, ds = [encS s, .int i] ∧ (StOk s ∧ 0 ≤ i ∧ i ≤ s.2) ∧ o = .ok (encS (upTo s.1 i, i))))) :=
  cal_X F hm sc_cut (F.bindsN fun _ _ _ _ _ _ us hl => match us, hl with | [_, _], _ => rfl) (by walk_at "len") fun cdv A outer s H vs Q E hr => by
    have nd := sc_cut.nd
    have hu64 := hr.units
    have hu := hr.units0
    refine ⟨_, (pss_cons (ps_expr (pe_callC c_require_stand hr (by rfl) (passes_call (takes_of rfl rfl rfl rfl) (fun _ _ _ _ h => h)) (pa_cons (pv 0) pa_nil))) (pss_cons (ps_if (pt_not (pt_val (pe_callC c_is_within hr (by rfl) passL (pa_cons (pv 1) (pa_cons pe_int (pa_cons (pe_ix (r := rIx K) ix_seq (pv 0) pe_int (fun _ _ => rfl)) pa_nil)))))) (pss_one (ps_raiseSup (k := 0) rfl o_InvalidNumber (hr.mono (by decide)) (takes_of rfl rfl rfl rfl) (pa_cons (pv 1) pa_nil) rfl)) pss_nil) (pss_one (ps_ret (pe_tup (pa_cons (pe_callC c_pairs_up_to hr (by rfl) passL (pa_cons (pe_ix (r := rIx K) ix_seq (pv 0) pe_int (fun _ _ => rfl)) (pa_cons (pv 1) pa_nil))) (pa_cons (pv 1) pa_nil))))))), ?_⟩
    rintro M ds o hM r (⟨a, p, rfl, hn, rfl⟩ | ⟨s, p, rfl, ⟨hs, hp⟩, rfl⟩ | ⟨s, i, rfl, ⟨hs, h1, h2⟩, rfl⟩) q
    · obtain ⟨v, v2, rfl, ra, rb⟩ := dpa2 r
      refine y_dropX (.start hM) (by walk_at "eda") ⟨_, rfl, (if_neg (by rw [hn]; decide)).symm⟩ (fun H1 a1 => ?_)
      exact fun H' e => q H' (a1.j.trans e)
    · obtain ⟨v, v2, rfl, ra, rb⟩ := dpa2 r
      refine y_dropX (.start hM) (by walk_at "eda") ⟨_, rfl, (if_pos (isStand_iff.mpr ⟨s, rfl, hs⟩)).symm⟩ (fun H1 a1 => ?_)
      intro v' H2 e2 _
      refine y_if0 (a1.step e2) (b := !isWithin p 0 s.2) (by walk_at "eb") (fun hb H3 a3 => ?_) (fun hb H3 a3 => ?_)
      · exact x_raiseSup a3 (by walk_at "eda") fun H4 a4 dd v4 H5 e5 h5 r5 => q dd v4 H5 (a4.j.trans e5) h5 r5
      · rw [hp] at hb
        cases hb
    · obtain ⟨v, v2, rfl, ra, rb⟩ := dpa2 r
      have lb := hs.br.len
      have l1 : s.1.length ≤ 100 := by omega
      refine y_dropX (.start hM) (by walk_at "eda") ⟨_, rfl, (if_pos (isStand_iff.mpr ⟨s, rfl, hs⟩)).symm⟩ (fun H1 a1 => ?_)
      intro v' H2 e2 _
      have hw : isWithin (.int i) 0 s.2 = true := by
        show (decide (0 ≤ i) && decide (i ≤ s.2)) = true
        rw [decide_eq_true h1, decide_eq_true h2]
        rfl
      refine y_if0 (a1.step e2) (b := !isWithin (.int i) 0 s.2) (by walk_at "eb") (fun hb H3 a3 => ?_) (fun hb H3 a3 => ?_)
      · rw [hw] at hb
        cases hb
      · exact x_ret a3 (by walk_at "ed") q
end
end K95
end
section
set_option Elab.async false
set_option linter.all false
set_option maxRecDepth 100000
set_option maxHeartbeats 4000000
/-! The walk: dice, stands that are drawn. -/
namespace K95
open PySem PySem.Spec PyProof.Rows L2 Evl DL
/-! ### the reading by data, step by step: local words -/
local macro_rules | `(tactic| walk_at "fact") => `(tactic| first | assumption | rfl | omega | decide | (simp; done) | (simp; omega))
local macro_rules | `(tactic| walk_at "callR") => `(tactic| first | exact ⟨_, rfl, rfl⟩ | exact ⟨_, _, rfl, rfl⟩ | exact ⟨_, rfl, by walk_at "fact", rfl⟩ | exact ⟨_, _, rfl, by walk_at "fact", rfl⟩ | exact ⟨_, _, _, rfl, rfl⟩)
local macro_rules | `(tactic| walk_at "callX") => `(tactic| first | exact .inr ⟨_, _, rfl, by walk_at "fact", rfl⟩ | exact .inr (.inr ⟨_, _, rfl, by walk_at "fact", rfl⟩))
local macro_rules | `(tactic| walk_at "rd") => `(tactic| first
  | with_reducible exact rg_add | with_reducible exact rd_sub | with_reducible exact rd_lt | with_reducible exact rd_le | with_reducible exact rg_gt | with_reducible exact rg_gtT | with_reducible exact rd_ge
  | exact rd_ixT (by walk_at "fact") | exact rd_ixL (by walk_at "fact")
  | exact rg_catT (by walk_at "fact") | exact rg_catL (by walk_at "fact") | exact rg_catS (by walk_at "fact")
  | exact rd_eq (by walk_at "fact") (by walk_at "fact") | exact rd_ne (by walk_at "fact") (by walk_at "fact")
  | exact rd_isB | exact rd_notB | exact rd_inS | exact rd_ninS
  | exact rd_mod (by walk_at "fact") | exact rd_fdivW (by walk_at "fact") | exact rg_mul (by walk_at "fact") | exact rd_pow (by walk_at "fact"))
local macro_rules | `(tactic| walk_at "rc") => `(tactic| first
  | with_reducible exact rc_lenT | with_reducible exact rc_lenL | with_reducible exact rc_tupleL | with_reducible exact rc_listT | with_reducible exact rc_listL | with_reducible exact rc_max2 | with_reducible exact rc_min2 | with_reducible exact rc_abs | with_reducible exact rc_int | with_reducible exact rc_intB | with_reducible exact rc_reprB)
local macro_rules | `(tactic| walk_at "eda") => `(tactic| first
  | with_reducible exact eda_nil
  | ((with_reducible refine' eda_cons ?k1 ?k2); (case k1 => walk_at "ed0"); (case k2 => walk_at "eda"))
  | ((with_reducible refine' eda_starL ?k1 ?k2); (case k1 => walk_at "ed0"); (case k2 => walk_at "eda"))
  | ((with_reducible refine' eda_starT ?k1 ?k2); (case k1 => walk_at "ed0"); (case k2 => walk_at "eda")))
local macro_rules | `(tactic| walk_at "ed0") => `(tactic| first
  | with_reducible exact ed_int | with_reducible exact ed_str | with_reducible exact ed_bl | with_reducible exact ed_non
  | ((with_reducible refine' ed_var ?k1 ?k2); (case k1 => rfl); (case k2 => assumption))
  | ((with_reducible refine' ed_isi ?k1 ?k2); (case k1 => walk_at "ed0"); (case k2 => first | exact kit_int _ | exact kit_bool _ | exact kit_tup _ | exact kit_str _))
  | ((with_reducible refine' ed_op ?k1 ?k2 ?k3); (case k1 => walk_at "ed0"); (case k2 => walk_at "ed0"); (case k3 => walk_at "rd"))
  | ((with_reducible refine' ed_neg ?k1); (case k1 => walk_at "ed0"))
  | ((with_reducible refine' ed_cb ?k1 ?k2); (case k1 => walk_at "eda"); (case k2 => walk_at "rc"))
  | ((with_reducible refine' ed_call ?k1 ?k2); (case k1 => walk_at "eda"); (case k2 => walk_at "callR"))
  | ((with_reducible refine' ed_callX ?k1 ?k2); (case k1 => walk_at "eda"); (case k2 => walk_at "callX"))
  | ((with_reducible refine' ed_tup ?k1 ?k2); (case k1 => walk_at "eda"); (case k2 => walk_at "fact"))
  | ((with_reducible refine' ed_lst ?k1 ?k2); (case k1 => walk_at "eda"); (case k2 => walk_at "fact"))
  | ((with_reducible refine' ed_slT ?k1 ?k2 ?k3); (case k1 => walk_at "ed0"); (case k2 => walk_at "eo"); (case k3 => walk_at "eo"))
  | ((with_reducible refine' ed_slL ?k1 ?k2 ?k3); (case k1 => walk_at "ed0"); (case k2 => walk_at "eo"); (case k3 => walk_at "eo"))
  | ((with_reducible refine' ed_and ?k1 (fun _ => ?k2)); (case k1 => walk_at "ed0"); (case k2 => walk_at "ed0"))
  | ((with_reducible refine' ed_or ?k1 (fun _ => ?k2)); (case k1 => walk_at "ed0"); (case k2 => walk_at "ed0"))
  | ((with_reducible refine' ed_not ?k1); (case k1 => walk_at "ed0"))
  | ((with_reducible refine' ed_chain ?k1 ?k2 ?k3 (fun _ => ?k4) (fun _ => ?k5)); (case k1 => walk_at "ed0"); (case k2 => walk_at "ed0"); (case k3 => walk_at "rd"); (case k4 => walk_at "ed0"); (case k5 => walk_at "rd"))
  | ((with_reducible refine' ed_ifv ?k1 (fun _ => ?k2) (fun _ => ?k3)); (case k1 => walk_at "eb0"); (case k2 => walk_at "ed0"); (case k3 => walk_at "ed0"))
  | ((with_reducible refine' ed_listZip ?k1); (case k1 => walk_at "eda")))
local macro_rules | `(tactic| walk_at "eo") => `(tactic| first
  | with_reducible exact eo_no
  | ((with_reducible refine' eo_part ?k1); (case k1 => walk_at "ed0")))
local macro_rules | `(tactic| walk_at "eb0") => `(tactic| first
  | ((with_reducible refine' eb_and ?k1 (fun _ => ?k2)); (case k1 => walk_at "eb0"); (case k2 => walk_at "eb0"))
  | ((with_reducible refine' eb_or ?k1 (fun _ => ?k2)); (case k1 => walk_at "eb0"); (case k2 => walk_at "eb0"))
  | ((with_reducible refine' eb_not ?k1); (case k1 => walk_at "eb0"))
  | ((with_reducible refine' et_tst ?k1); (case k1 => walk_at "ed0"))
  | ((with_reducible refine' et_Bv ?k1); (case k1 => walk_at "ed0")))
local macro_rules | `(tactic| walk_at "ed") => `(tactic| (refine' EvD.is ?k1 ?k2; (case k1 => walk_at "ed0"); (case k2 => first | rfl | (simp; done))))
local macro_rules | `(tactic| walk_at "eb") => `(tactic| (refine' EvB.is ?k1 ?k2; (case k1 => walk_at "eb0"); (case k2 => first | rfl | (simp; done))))
section
variable {P : Program} {w : World} {K : PySem.W.Frag} {mg : Str → Option Value} {base : Heap} {f : Addr} {fd : FuncData} (B : Bi mg)
include B
theorem cal__law_roll (F : FnP K "_law_roll" s__law_roll f fd) (hm : mg "_law_roll" = some (.ref f)) : Cal P w K mg base "_law_roll" 1 ["dice", "total"] spRoll :=
  cal_mk F hm sc__law_roll (F.bindsN fun _ _ _ _ _ _ us hl => match us, hl with | [_, _], _ => rfl) (fun vs H Q E ⟨_, _, e, _⟩ => by rw [e]; rfl) fun cdv A outer s H vs Q E hr h => by
    have nd := sc__law_roll.nd
    have hu64 := hr.units
    have hu := hr.units0
    refine ⟨_, PSs.nox (pss_cons (ps_set (i := 2) nd rfl (by first | exact Or.inl rfl | exact Or.inr rfl) (pe_callTy call_int' (by rfl) B.int (by decide +kernel) (pa_cons (pv 1) pa_nil))) (pss_cons (ps_if (pt_cmpR (r := rGtG K) (op_gtG hu) (pe_ix (r := rIx K) ix_seq (pv 0) pe_int (fun _ _ => rfl)) pe_int (nomark _)) (pss_cons (ps_set (i := 3) nd rfl (by first | exact Or.inl rfl | exact Or.inr rfl) (pe_op op_mod (pe_ix (r := rIx K) ix_seq (pv 0) pe_int (fun _ _ => rfl)) (pv 2))) (pss_cons (ps_asg (pe_op op_fdivW (pe_ix (r := rIx K) ix_seq (pv 0) pe_int (fun _ _ => rfl)) (pv 2)) (pg_sub (pv 0) pe_int set_list)) (pss_one (ps_ret (pe_callTy call_int' (by rfl) B.int (by decide +kernel) (pa_cons (pv 3) pa_nil)))))) pss_nil) (pss_cons (ps_asg (pe_op (r := rAddG K) op_addG (pe_ix (r := rIx K) ix_seq (pv 0) pe_int (fun _ _ => rfl)) pe_int) (pg_sub (pv 0) pe_int set_list)) (pss_cons (ps_set (i := 4) nd rfl (by first | exact Or.inl rfl | exact Or.inr rfl) (pe_op op_mod (pe_op (r := rAddG K) op_addG (pe_ix (r := rIx K) ix_seq (pv 0) pe_int (fun _ _ => rfl)) (pe_op op_mulG pe_int (pe_ix (r := rIx K) ix_seq (pv 0) pe_int (fun _ _ => rfl)))) pe_int)) (pss_cons (ps_set (i := 5) nd rfl (by first | exact Or.inl rfl | exact Or.inr rfl) (pe_op (r := rAddG K) op_addG (pe_op op_mulG (pe_op op_mod (pe_op op_mulG (pv 4) (pv 4)) pe_int) (pv 4)) (pe_op op_mulG pe_int (pe_ix (r := rIx K) ix_seq (pv 0) pe_int (fun _ _ => rfl))))) (pss_cons (ps_set (i := 5) nd rfl (by first | exact Or.inl rfl | exact Or.inr rfl) (pe_op op_mod (pv 5) pe_int)) (pss_one (ps_ret (pe_callTy call_int' (by rfl) B.int (by decide +kernel) (pa_cons (pe_op op_mod (pe_op op_fdivW (pv 5) pe_int) (pv 2)) pa_nil)))))))))), ?_⟩
    obtain ⟨p, n, rfl, h0, h1, ⟨a, b, c, hp, ha⟩, q⟩ := h
    have rp := dp_l3 (K := K) hp
    have rn : Dp K H (.int n) (.int n) := .int n
    have c0 : CDivW a n := ⟨h0, by
      have : n.natAbs < 2 ^ 11 := by omega
      have h2 : n.natAbs.log2 < 11 := by
        rw [Nat.log2_lt (by omega)]
        exact this
      omega⟩
    refine y_asgI (n := n) (ax0 up_ex (Ex.refl H)) (by walk_at "ed") fun H1 a1 => ?_
    show tSeq _ _ _ [some (.ref p), some (.int n), some (.int n), none, none, none] H1
    refine y_if0 a1 (b := decide (0 < a)) (by walk_at "eb") (fun hb H2 a2 => ?_) (fun hb H2 a2 => ?_)
    · refine y_asgI (n := a % n) a2 (by walk_at "ed") fun H3 a3 => ?_
      show tSeq _ _ _ [some (.ref p), some (.int n), some (.int n), some (.int (a % n)), none, none] H3
      refine y_setI (k := 0) (j := 0) a3 (x := a / n) (by walk_at "ed") rfl hp rfl fun H4 a4 hp4 => ?_
      have hp5 : upd H4 p (.lst [.int (a / n), .int b, .int c]) p = some (.lst [.int (a / n), .int b, .int c]) := upd_same
      have rd : Dp K (upd H4 p (.lst [.int (a / n), .int b, .int c])) (.int (a % n)) (.int (a % n)) := .int _
      refine x_ret (ax0 up_ex (Ex.refl _)) (by walk_at "ed") fun v H5 e5 r5 => ?_
      cases r5
      exact q _ _ (Int.emod_nonneg _ (by omega)) (Int.emod_lt_of_pos _ h0) ⟨_, _, _, e5 _ _ hp5, Int.ediv_nonneg ha (by omega)⟩ (((Ex.but a4.j).trans but_upd).trans (Ex.but e5))
    · refine y_setI (k := 2) (j := 2) a2 (x := c + 1) (by walk_at "ed") rfl hp rfl fun H4 a4 hp4 => ?_
      have hp5 : upd H4 p (.lst [.int a, .int b, .int (c + 1)]) p = some (.lst [.int a, .int b, .int (c + 1)]) := upd_same
      have rp5 := dp_l3 (K := K) hp5
      have rn5 : Dp K (upd H4 p (.lst [.int a, .int b, .int (c + 1)])) (.int n) (.int n) := .int n
      have m1 : CMul 1000333 (c + 1) := cmul_l (by decide) (by decide)
      have m2 : CMul 9479 (c + 1) := cmul_l (by decide) (by decide)
      refine y_asgI (n := (b + 1000333 * (c + 1)) % 2305843009213693951) (ax0 up_ex (Ex.refl _)) (by walk_at "ed") fun H6 a6 => ?_
      generalize hone : (b + 1000333 * (c + 1)) % 2305843009213693951 = one
      have o1 : 0 ≤ one := by omega
      have o2 : one < 2305843009213693951 := by omega
      have m3 : CMul one one := cmul_l (by omega) (by omega)
      have m4 : CMul (one * one % 2305843009213693921) one := cmul_l (by omega) (by omega)
      have ro : Dp K (upd H4 p (.lst [.int a, .int b, .int (c + 1)])) (.int one) (.int one) := .int _
      show tSeq _ _ _ [some (.ref p), some (.int n), some (.int n), none, some (.int one), none] H6
      refine y_asgI (n := one * one % 2305843009213693921 * one + 9479 * (c + 1)) a6 (by walk_at "ed") fun H7 a7 => ?_
      generalize one * one % 2305843009213693921 * one + 9479 * (c + 1) = two
      have rt : Dp K (upd H4 p (.lst [.int a, .int b, .int (c + 1)])) (.int two) (.int two) := .int _
      show tSeq _ _ _ [some (.ref p), some (.int n), some (.int n), none, some (.int one), some (.int two)] H7
      refine y_asgI (n := two % 2305843009213693907) a7 (by walk_at "ed") fun H8 a8 => ?_
      generalize two % 2305843009213693907 = two2
      have rt2 : Dp K (upd H4 p (.lst [.int a, .int b, .int (c + 1)])) (.int two2) (.int two2) := .int _
      have c1 : CDivW two2 4096 := ⟨by decide, by decide +kernel⟩
      refine x_ret a8 (d := .int (two2 / 4096 % n)) (by walk_at "ed") fun v H5 e5 r5 => ?_
      cases r5
      exact q _ _ (Int.emod_nonneg _ (by omega)) (Int.emod_lt_of_pos _ h0) ⟨_, _, _, e5 _ _ hp5, ha⟩ (((Ex.but a4.j).trans but_upd).trans (Ex.but e5))
end
end K95
end
section
set_option Elab.async false
set_option linter.all false
set_option maxRecDepth 100000
set_option maxHeartbeats 4000000
/-! The walk: dice made, drawn items, drawn stands. -/
namespace K95
open PySem PySem.Spec PyProof.Rows L2 Evl DL
/-! ### the reading by data, step by step: local words -/
local macro_rules | `(tactic| walk_at "fact") => `(tactic| first | assumption | rfl | omega | decide | (simp; done) | (simp; omega))
local macro_rules | `(tactic| walk_at "callR") => `(tactic| first | exact ⟨_, rfl, rfl⟩ | exact ⟨_, _, rfl, rfl⟩ | exact ⟨_, rfl, by walk_at "fact", rfl⟩ | exact ⟨_, _, rfl, by walk_at "fact", rfl⟩ | exact ⟨_, _, _, rfl, rfl⟩)
local macro_rules | `(tactic| walk_at "callX") => `(tactic| first | exact .inr ⟨_, _, rfl, by walk_at "fact", rfl⟩ | exact .inr (.inr ⟨_, _, rfl, by walk_at "fact", rfl⟩))
local macro_rules | `(tactic| walk_at "rd") => `(tactic| first
  | with_reducible exact rg_add | with_reducible exact rd_sub | with_reducible exact rd_lt | with_reducible exact rd_le | with_reducible exact rg_gt | with_reducible exact rg_gtT | with_reducible exact rd_ge
  | exact rd_ixT (by walk_at "fact") | exact rd_ixL (by walk_at "fact")
  | exact rg_catT (by walk_at "fact") | exact rg_catL (by walk_at "fact") | exact rg_catS (by walk_at "fact")
  | exact rd_eq (by walk_at "fact") (by walk_at "fact") | exact rd_ne (by walk_at "fact") (by walk_at "fact")
  | exact rd_isB | exact rd_notB | exact rd_inS | exact rd_ninS
  | exact rd_mod (by walk_at "fact") | exact rd_fdivW (by walk_at "fact") | exact rg_mul (by walk_at "fact") | exact rd_pow (by walk_at "fact"))
local macro_rules | `(tactic| walk_at "rc") => `(tactic| first
  | with_reducible exact rc_lenT | with_reducible exact rc_lenL | with_reducible exact rc_tupleL | with_reducible exact rc_listT | with_reducible exact rc_listL | with_reducible exact rc_max2 | with_reducible exact rc_min2 | with_reducible exact rc_abs | with_reducible exact rc_int | with_reducible exact rc_intB | with_reducible exact rc_reprB)
local macro_rules | `(tactic| walk_at "eda") => `(tactic| first
  | with_reducible exact eda_nil
  | ((with_reducible refine' eda_cons ?k1 ?k2); (case k1 => walk_at "ed0"); (case k2 => walk_at "eda"))
  | ((with_reducible refine' eda_starL ?k1 ?k2); (case k1 => walk_at "ed0"); (case k2 => walk_at "eda"))
  | ((with_reducible refine' eda_starT ?k1 ?k2); (case k1 => walk_at "ed0"); (case k2 => walk_at "eda")))
local macro_rules | `(tactic| walk_at "ed0") => `(tactic| first
  | with_reducible exact ed_int | with_reducible exact ed_str | with_reducible exact ed_bl | with_reducible exact ed_non
  | ((with_reducible refine' ed_var ?k1 ?k2); (case k1 => rfl); (case k2 => assumption))
  | ((with_reducible refine' ed_isi ?k1 ?k2); (case k1 => walk_at "ed0"); (case k2 => first | exact kit_int _ | exact kit_bool _ | exact kit_tup _ | exact kit_str _))
  | ((with_reducible refine' ed_op ?k1 ?k2 ?k3); (case k1 => walk_at "ed0"); (case k2 => walk_at "ed0"); (case k3 => walk_at "rd"))
  | ((with_reducible refine' ed_neg ?k1); (case k1 => walk_at "ed0"))
  | ((with_reducible refine' ed_cb ?k1 ?k2); (case k1 => walk_at "eda"); (case k2 => walk_at "rc"))
  | ((with_reducible refine' ed_call ?k1 ?k2); (case k1 => walk_at "eda"); (case k2 => walk_at "callR"))
  | ((with_reducible refine' ed_callX ?k1 ?k2); (case k1 => walk_at "eda"); (case k2 => walk_at "callX"))
  | ((with_reducible refine' ed_tup ?k1 ?k2); (case k1 => walk_at "eda"); (case k2 => walk_at "fact"))
  | ((with_reducible refine' ed_lst ?k1 ?k2); (case k1 => walk_at "eda"); (case k2 => walk_at "fact"))
  | ((with_reducible refine' ed_slT ?k1 ?k2 ?k3); (case k1 => walk_at "ed0"); (case k2 => walk_at "eo"); (case k3 => walk_at "eo"))
  | ((with_reducible refine' ed_slL ?k1 ?k2 ?k3); (case k1 => walk_at "ed0"); (case k2 => walk_at "eo"); (case k3 => walk_at "eo"))
  | ((with_reducible refine' ed_and ?k1 (fun _ => ?k2)); (case k1 => walk_at "ed0"); (case k2 => walk_at "ed0"))
  | ((with_reducible refine' ed_or ?k1 (fun _ => ?k2)); (case k1 => walk_at "ed0"); (case k2 => walk_at "ed0"))
  | ((with_reducible refine' ed_not ?k1); (case k1 => walk_at "ed0"))
  | ((with_reducible refine' ed_chain ?k1 ?k2 ?k3 (fun _ => ?k4) (fun _ => ?k5)); (case k1 => walk_at "ed0"); (case k2 => walk_at "ed0"); (case k3 => walk_at "rd"); (case k4 => walk_at "ed0"); (case k5 => walk_at "rd"))
  | ((with_reducible refine' ed_ifv ?k1 (fun _ => ?k2) (fun _ => ?k3)); (case k1 => walk_at "eb0"); (case k2 => walk_at "ed0"); (case k3 => walk_at "ed0"))
  | ((with_reducible refine' ed_listZip ?k1); (case k1 => walk_at "eda")))
local macro_rules | `(tactic| walk_at "eo") => `(tactic| first
  | with_reducible exact eo_no
  | ((with_reducible refine' eo_part ?k1); (case k1 => walk_at "ed0")))
local macro_rules | `(tactic| walk_at "eb0") => `(tactic| first
  | ((with_reducible refine' eb_and ?k1 (fun _ => ?k2)); (case k1 => walk_at "eb0"); (case k2 => walk_at "eb0"))
  | ((with_reducible refine' eb_or ?k1 (fun _ => ?k2)); (case k1 => walk_at "eb0"); (case k2 => walk_at "eb0"))
  | ((with_reducible refine' eb_not ?k1); (case k1 => walk_at "eb0"))
  | ((with_reducible refine' et_tst ?k1); (case k1 => walk_at "ed0"))
  | ((with_reducible refine' et_Bv ?k1); (case k1 => walk_at "ed0")))
local macro_rules | `(tactic| walk_at "ed") => `(tactic| (refine' EvD.is ?k1 ?k2; (case k1 => walk_at "ed0"); (case k2 => first | rfl | (simp; done))))
local macro_rules | `(tactic| walk_at "eb") => `(tactic| (refine' EvB.is ?k1 ?k2; (case k1 => walk_at "eb0"); (case k2 => first | rfl | (simp; done))))
theorem great_pow : (0 : Int) < ((10 : Int) ^ (60 : Int).toNat) ^ (10 : Int).toNat := Int.pow_pos (Int.pow_pos (by decide))
theorem pow_a : CPowW 10 60 := ⟨by decide, by decide +kernel⟩
theorem pow_b : CPowW ((10 : Int) ^ (60 : Int).toNat) 10 := ⟨by decide, by decide +kernel⟩
theorem pow_c : CPowW 10 18 := ⟨by decide, by decide +kernel⟩
theorem div_c (g : Int) : CDivW g ((10 : Int) ^ (18 : Int).toNat) := ⟨by decide +kernel, by decide +kernel⟩
section
variable {P : Program} {w : World} {K : PySem.W.Frag} {mg : Str → Option Value} {base : Heap} {f : Addr} {fd : FuncData} (B : Bi mg)
include B
theorem cal__law_dice (F : FnP K "_law_dice" s__law_dice f fd) (hm : mg "_law_dice" = some (.ref f)) : Cal P w K mg base "_law_dice" 1 ["script", "at"] (spDice K) :=
  cal_mk F hm sc__law_dice (F.bindsN fun _ _ _ _ _ _ us hl => match us, hl with | [_, _], _ => rfl) (fun vs H Q E ⟨_, _, _, _, r, _⟩ => by rw [dpa_len r]; rfl) fun cdv A outer s H vs Q E hr h => by
    have nd := sc__law_dice.nd
    have hu64 := hr.units
    have hu := hr.units0
    refine ⟨_, PSs.nox (pss_cons (ps_set (i := 2) nd rfl (by first | exact Or.inl rfl | exact Or.inr rfl) (pe_op (r := rAddG K) op_addG (pe_op op_mulG pe_int (pv 1)) pe_int)) (pss_cons (ps_if (pt_cmpR op_ltG (pv 1) (pe_callB (r := rLenS K) call_lenS (by rfl) B.len (by decide +kernel) (pa_cons (pv 0) pa_nil)) (nomark _)) (pss_one (ps_set (i := 2) nd rfl (by first | exact Or.inl rfl | exact Or.inr rfl) (pe_ix (r := rIx K) ix_seq (pv 0) (pv 1) (fun _ _ => rfl)))) pss_nil) (pss_cons (ps_set (i := 3) nd rfl (by first | exact Or.inl rfl | exact Or.inr rfl) (pe_op op_mod (pe_callTy call_int' (by rfl) B.int (by decide +kernel) (pa_cons (pe_callB call_abs' (by rfl) B.abs (by decide +kernel) (pa_cons (pv 2) pa_nil)) pa_nil)) (pe_op op_powW (pe_op op_powW pe_int pe_int) pe_int))) (pss_cons (ps_set (i := 4) nd rfl (by first | exact Or.inl rfl | exact Or.inr rfl) (pe_op op_fdivW (pv 3) (pe_op op_powW pe_int pe_int))) (pss_cons (ps_set (i := 5) nd rfl (by first | exact Or.inl rfl | exact Or.inr rfl) (pe_op (r := rAddG K) op_addG (pe_op (r := rAddG K) op_addG (pe_op (r := rAddG K) op_addG (pe_op op_mulG (pe_op op_mod (pv 3) pe_int) pe_int) (pe_op op_mulG pe_int (pv 1))) (pe_op op_mulG pe_int (pe_callTy call_int' (by rfl) B.int (by decide +kernel) (pa_cons (pe_cmpR op_ltG (pv 2) pe_int (nomark _)) pa_nil)))) pe_int)) (pss_one (ps_ret (pe_lst (pa_cons (pv 4) (pa_cons (pe_op op_mod (pv 5) pe_int) (pa_cons pe_int pa_nil))))))))))), ?_⟩
    obtain ⟨M, ns, i, hM, r, hi, q⟩ := h
    obtain ⟨v, v2, rfl, rs, ri⟩ := dpa2 r
    cases ri
    have ri : Dp K (hid M H) (.int (Int.ofNat i)) (.int (Int.ofNat i)) := .int _
    have hi2 : (Int.ofNat i) ≤ 100 := by show (i : Int) ≤ 100; omega
    have hi3 : 0 ≤ (Int.ofNat i) := by show 0 ≤ (i : Int); omega
    have m1 : CMul 83 (Int.ofNat i) := cmul_l (by decide) (by decide)
    have m2 : CMul 3499 (Int.ofNat i) := cmul_l (by decide) (by decide)
    refine y_asgI (K := K) (n := 83 * Int.ofNat i + 59) (.start hM) (by walk_at "ed") fun H1 a1 => ?_
    show tSeq _ _ _ [some v, some (.int (Int.ofNat i)), some (.int (83 * Int.ofNat i + 59)), none, none, none] H1
    refine y_ifRest (K := K) (fun c => [some v, some (.int (Int.ofNat i)), some (.int c), none, none, none]) a1 (b := decide (Int.ofNat i < ((ns.map PyData.int).length : Int))) (by walk_at "eb") (fun _ => ⟨_, rfl⟩) (fun c H2 a2 => ?_) (fun hb H2 a2 rest => ?_)
    · show tSeq _ _ _ [some v, some (.int (Int.ofNat i)), some (.int c), none, none, none] H2
      have rc : Dp K (hid M H) (.int c) (.int c) := .int _
      have f1 := great_pow
      have f2 := pow_a
      have f3 := pow_b
      have f4 := pow_c
      refine y_asgI (K := K) (n := (c.natAbs : Int) % ((10 : Int) ^ (60 : Int).toNat) ^ (10 : Int).toNat) a2 (by walk_at "ed") fun H3 a3 => ?_
      have g0 : 0 ≤ (c.natAbs : Int) % ((10 : Int) ^ (60 : Int).toNat) ^ (10 : Int).toNat := Int.emod_nonneg _ (by omega)
      generalize (c.natAbs : Int) % ((10 : Int) ^ (60 : Int).toNat) ^ (10 : Int).toNat = g at g0
      have rg : Dp K (hid M H) (.int g) (.int g) := .int _
      have f5 := div_c g
      show tSeq _ _ _ [some v, some (.int (Int.ofNat i)), some (.int c), some (.int g), none, none] H3
      refine y_asgI (K := K) (n := g / (10 : Int) ^ (18 : Int).toNat) a3 (by walk_at "ed") fun H4 a4 => ?_
      have l0 : 0 ≤ g / (10 : Int) ^ (18 : Int).toNat := Int.ediv_nonneg g0 (Int.le_of_lt (Int.pow_pos (by decide)))
      generalize g / (10 : Int) ^ (18 : Int).toNat = l at l0
      have rl : Dp K (hid M H) (.int l) (.int l) := .int _
      show tSeq _ _ _ [some v, some (.int (Int.ofNat i)), some (.int c), some (.int g), some (.int l), none] H4
      have m3 : CMul (g % 2147482811) 60509 := cmul_r (by decide) (by decide)
      have m4 : CMul 73 (if decide (c < 0) = true then 1 else 0) := cmul_l (by decide) (by decide)
      refine y_asgI (K := K) (n := g % 2147482811 * 60509 + 3499 * Int.ofNat i + 73 * (if decide (c < 0) = true then 1 else 0) + 101) a4 (by walk_at "ed") fun H5 a5 => ?_
      generalize g % 2147482811 * 60509 + 3499 * Int.ofNat i + 73 * (if decide (c < 0) = true then 1 else 0) + 101 = m
      have rm : Dp K (hid M H) (.int m) (.int m) := .int _
      show tRet _ _ [some v, some (.int (Int.ofNat i)), some (.int c), some (.int g), some (.int l), some (.int m)] H5
      refine x_retL (ds := [.int l, .int (m % 2147482801), .int 0]) a5 (by walk_at "eda") (by simp) fun p vs H6 a6 hp r => ?_
      obtain ⟨x1, x2, x3, rfl, y1, y2, y3⟩ := dpa3 r
      cases y1
      cases y2
      cases y3
      refine q p _ (a6.j.trans (Ex.new hp)) ?_ ⟨_, _, _, upd_same, l0⟩
      cases e : H p with
      | none => rfl
      | some o => rw [a6.j p o e] at hp; cases hp
    have hl : i < ns.length := by
      have h1 : (Int.ofNat i) < ((ns.map PyData.int).length : Int) := by simpa using hb
      rw [List.length_map] at h1
      have h2 : (i : Int) < (ns.length : Int) := h1
      omega
    have hat : atI (ns.map PyData.int) (Int.ofNat i) = some (.int ns[i]) := by
      show atI (ns.map PyData.int) (i : Int) = _
      rw [atI_nat (by rw [List.length_map]; exact hl)]
      simp [hl]
    refine h_asgI (K := K) (n := ns[i]) a2 (by walk_at "ed") fun H3 a3 => rest _ H3 a3
end
end K95
end
section
set_option Elab.async false
set_option linter.all false
set_option maxRecDepth 100000
set_option maxHeartbeats 4000000
/-! The walk: drawn items, drawn branches, two drawn stands. -/
namespace K95
open PySem PySem.Spec PyProof.Rows L2 Evl DL
/-! ### the reading by data, step by step: local words -/
local macro_rules | `(tactic| walk_at "fact") => `(tactic| first | assumption | rfl | omega | decide | (simp; done) | (simp; omega))
local macro_rules | `(tactic| walk_at "callR") => `(tactic| first | exact ⟨_, rfl, rfl⟩ | exact ⟨_, _, rfl, rfl⟩ | exact ⟨_, rfl, by walk_at "fact", rfl⟩ | exact ⟨_, _, rfl, by walk_at "fact", rfl⟩ | exact ⟨_, _, _, rfl, rfl⟩)
local macro_rules | `(tactic| walk_at "callX") => `(tactic| first | exact .inr ⟨_, _, rfl, by walk_at "fact", rfl⟩ | exact .inr (.inr ⟨_, _, rfl, by walk_at "fact", rfl⟩))
local macro_rules | `(tactic| walk_at "rd") => `(tactic| first
  | with_reducible exact rg_add | with_reducible exact rd_sub | with_reducible exact rd_lt | with_reducible exact rd_le | with_reducible exact rg_gt | with_reducible exact rg_gtT | with_reducible exact rd_ge
  | exact rd_ixT (by walk_at "fact") | exact rd_ixL (by walk_at "fact")
  | exact rg_catT (by walk_at "fact") | exact rg_catL (by walk_at "fact") | exact rg_catS (by walk_at "fact")
  | exact rd_eq (by walk_at "fact") (by walk_at "fact") | exact rd_ne (by walk_at "fact") (by walk_at "fact")
  | exact rd_isB | exact rd_notB | exact rd_inS | exact rd_ninS
  | exact rd_mod (by walk_at "fact") | exact rd_fdivW (by walk_at "fact") | exact rg_mul (by walk_at "fact") | exact rd_pow (by walk_at "fact"))
local macro_rules | `(tactic| walk_at "rc") => `(tactic| first
  | with_reducible exact rc_lenT | with_reducible exact rc_lenL | with_reducible exact rc_tupleL | with_reducible exact rc_listT | with_reducible exact rc_listL | with_reducible exact rc_max2 | with_reducible exact rc_min2 | with_reducible exact rc_abs | with_reducible exact rc_int | with_reducible exact rc_intB | with_reducible exact rc_reprB)
local macro_rules | `(tactic| walk_at "eda") => `(tactic| first
  | with_reducible exact eda_nil
  | ((with_reducible refine' eda_cons ?k1 ?k2); (case k1 => walk_at "ed0"); (case k2 => walk_at "eda"))
  | ((with_reducible refine' eda_starL ?k1 ?k2); (case k1 => walk_at "ed0"); (case k2 => walk_at "eda"))
  | ((with_reducible refine' eda_starT ?k1 ?k2); (case k1 => walk_at "ed0"); (case k2 => walk_at "eda")))
local macro_rules | `(tactic| walk_at "ed0") => `(tactic| first
  | with_reducible exact ed_int | with_reducible exact ed_str | with_reducible exact ed_bl | with_reducible exact ed_non
  | ((with_reducible refine' ed_var ?k1 ?k2); (case k1 => rfl); (case k2 => assumption))
  | ((with_reducible refine' ed_isi ?k1 ?k2); (case k1 => walk_at "ed0"); (case k2 => first | exact kit_int _ | exact kit_bool _ | exact kit_tup _ | exact kit_str _))
  | ((with_reducible refine' ed_op ?k1 ?k2 ?k3); (case k1 => walk_at "ed0"); (case k2 => walk_at "ed0"); (case k3 => walk_at "rd"))
  | ((with_reducible refine' ed_neg ?k1); (case k1 => walk_at "ed0"))
  | ((with_reducible refine' ed_cb ?k1 ?k2); (case k1 => walk_at "eda"); (case k2 => walk_at "rc"))
  | ((with_reducible refine' ed_call ?k1 ?k2); (case k1 => walk_at "eda"); (case k2 => walk_at "callR"))
  | ((with_reducible refine' ed_callX ?k1 ?k2); (case k1 => walk_at "eda"); (case k2 => walk_at "callX"))
  | ((with_reducible refine' ed_tup ?k1 ?k2); (case k1 => walk_at "eda"); (case k2 => walk_at "fact"))
  | ((with_reducible refine' ed_lst ?k1 ?k2); (case k1 => walk_at "eda"); (case k2 => walk_at "fact"))
  | ((with_reducible refine' ed_slT ?k1 ?k2 ?k3); (case k1 => walk_at "ed0"); (case k2 => walk_at "eo"); (case k3 => walk_at "eo"))
  | ((with_reducible refine' ed_slL ?k1 ?k2 ?k3); (case k1 => walk_at "ed0"); (case k2 => walk_at "eo"); (case k3 => walk_at "eo"))
  | ((with_reducible refine' ed_and ?k1 (fun _ => ?k2)); (case k1 => walk_at "ed0"); (case k2 => walk_at "ed0"))
  | ((with_reducible refine' ed_or ?k1 (fun _ => ?k2)); (case k1 => walk_at "ed0"); (case k2 => walk_at "ed0"))
  | ((with_reducible refine' ed_not ?k1); (case k1 => walk_at "ed0"))
  | ((with_reducible refine' ed_chain ?k1 ?k2 ?k3 (fun _ => ?k4) (fun _ => ?k5)); (case k1 => walk_at "ed0"); (case k2 => walk_at "ed0"); (case k3 => walk_at "rd"); (case k4 => walk_at "ed0"); (case k5 => walk_at "rd"))
  | ((with_reducible refine' ed_ifv ?k1 (fun _ => ?k2) (fun _ => ?k3)); (case k1 => walk_at "eb0"); (case k2 => walk_at "ed0"); (case k3 => walk_at "ed0"))
  | ((with_reducible refine' ed_listZip ?k1); (case k1 => walk_at "eda")))
local macro_rules | `(tactic| walk_at "eo") => `(tactic| first
  | with_reducible exact eo_no
  | ((with_reducible refine' eo_part ?k1); (case k1 => walk_at "ed0")))
local macro_rules | `(tactic| walk_at "eb0") => `(tactic| first
  | ((with_reducible refine' eb_and ?k1 (fun _ => ?k2)); (case k1 => walk_at "eb0"); (case k2 => walk_at "eb0"))
  | ((with_reducible refine' eb_or ?k1 (fun _ => ?k2)); (case k1 => walk_at "eb0"); (case k2 => walk_at "eb0"))
  | ((with_reducible refine' eb_not ?k1); (case k1 => walk_at "eb0"))
  | ((with_reducible refine' et_tst ?k1); (case k1 => walk_at "ed0"))
  | ((with_reducible refine' et_Bv ?k1); (case k1 => walk_at "ed0")))
local macro_rules | `(tactic| walk_at "ed") => `(tactic| (refine' EvD.is ?k1 ?k2; (case k1 => walk_at "ed0"); (case k2 => first | rfl | (simp; done))))
local macro_rules | `(tactic| walk_at "eb") => `(tactic| (refine' EvB.is ?k1 ?k2; (case k1 => walk_at "eb0"); (case k2 => first | rfl | (simp; done))))
section
variable {P : Program} {w : World} {K : PySem.W.Frag} {mg : Str → Option Value} {base : Heap} {f : Addr} {fd : FuncData} (B : Bi mg)
variable (c__law_roll : Cal P w K mg base "_law_roll" 1 ["dice", "total"] spRoll)
include B c__law_roll
theorem cal__law_one_of (F : FnP K "_law_one_of" s__law_one_of f fd) (hm : mg "_law_one_of" = some (.ref f)) :
    Cal P w K mg base "_law_one_of" 2 ["dice", "items"] (spD K (fun ds => ∃ es, ds = [.list es] ∧ 1 ≤ es.length ∧ es.length ≤ 1000) fun ds d => ∃ es, ds = [.list es] ∧ d ∈ es) :=
  cal_N F hm sc__law_one_of (F.bindsN fun _ _ _ _ _ _ us hl => match us, hl with | [_, _], _ => rfl) (fun ds ⟨es, e, _⟩ => by rw [e]; rfl) fun cdv A outer s H vs Q E hr => by
    have nd := sc__law_one_of.nd
    have hu64 := hr.units
    have hu := hr.units0
    refine ⟨_, PSs.nox (pss_one (ps_ret (pe_ix (r := rIx K) ix_seq (pv 1) (pe_callC c__law_roll hr (by rfl) passL (pa_cons (pv 0) (pa_cons (pe_callB (r := rLenS K) call_lenS (by rfl) B.len (by decide +kernel) (pa_cons (pv 1) pa_nil)) pa_nil))) (fun _ _ => rfl)))), ?_⟩
    rintro M J p ws ds rfl a dj r ⟨es, rfl, l1, l2⟩ q
    obtain ⟨v, rfl, rv⟩ := dpa1 r
    refine m_ret a (R := fun d => d ∈ es) (en_op (en_D (ed_var rfl rv)) (en_roll dj rfl (n := (es.length : Int)) (by walk_at "ed") ⟨by omega, by omega⟩) ?_) fun v H' d e a1 hd r1 => q v H' d e a1 ⟨es, rfl, hd⟩ r1
    rintro _ _ rfl ⟨r, rfl, r0, r1⟩
    have hl : r.toNat < es.length := by omega
    refine ⟨es[r.toNat], rd_ixL ?_, List.getElem_mem hl⟩
    have e2 : atI es (r.toNat : Int) = some es[r.toNat] := by
      rw [atI_nat hl]
      simp [hl]
    rw [Int.toNat_of_nonneg r0] at e2
    exact e2
theorem cal__law_more (F : FnP K "_law_more" s__law_more f fd) (hm : mg "_law_more" = some (.ref f)) :
    Cal P w K mg base "_law_more" 2 ["dice", "branch", "most"] (spD K (fun ds => ∃ b n C, ds = [encB b, .int 2] ∧ Gr n C b ∧ n ≤ 10 ∧ C ≤ 100) fun ds d => ∃ b b', ds = [encB b, .int 2] ∧ d = encB b' ∧ ∀ n C, Gr n C b → n ≤ 10 → C ≤ 100 → Gr (n + 2) (C + 6) b') :=
  cal_N F hm sc__law_more (F.bindsN fun _ _ _ _ _ _ us hl => match us, hl with | [_, _, _], _ => rfl) (fun ds ⟨b, n, C, e, _⟩ => by rw [e]; rfl) fun cdv A outer s H vs Q E hr => by
    have nd := sc__law_more.nd
    have hu64 := hr.units
    have hu := hr.units0
    refine ⟨_, PSs.nox (pss_cons (ps_for PassesOwn.never rfl (pi_range1 (by rfl) B.range (pa_cons (pe_callC c__law_roll hr (by rfl) passL (pa_cons (pv 0) (pa_cons (pe_op (r := rAddG K) op_addG (pv 2) pe_int) pa_nil))) pa_nil)) (pg_name (i := 3) nd rfl (by first | exact Or.inl rfl | exact Or.inr rfl)) (pss_cons (ps_asg (pe_ix (r := rIx K) ix_seq (pv 1) (pe_un un_neg pe_int) (fun _ _ => rfl)) (pg_tupK (K := K) rfl rfl (pgs_cons (pg_name (i := 4) nd rfl (by first | exact Or.inl rfl | exact Or.inr rfl)) (pgs_cons (pg_name (i := 5) nd rfl (by first | exact Or.inl rfl | exact Or.inr rfl)) pgs_nil)))) (pss_one (ps_set (i := 1) nd rfl (by first | exact Or.inl rfl | exact Or.inr rfl) (pe_op (r := rAddG K) op_addG (pv 1) (pe_tup (pa_cons (pe_tup (pa_cons (pe_op (r := rAddG K) op_addG (pe_op (r := rAddG K) op_addG (pv 4) pe_int) (pe_callC c__law_roll hr (by rfl) passL (pa_cons (pv 0) (pa_cons pe_int pa_nil)))) (pa_cons (pe_op (r := rAddG K) op_addG (pv 5) (pe_callC c__law_roll hr (by rfl) passL (pa_cons (pv 0) (pa_cons pe_int pa_nil)))) pa_nil))) pa_nil))))))) (pss_one (ps_ret (pv 1)))), ?_⟩
    rintro M J p ws ds rfl a dj r ⟨b, n0, C0, rfl, hg0, hn0, hC0⟩ q
    obtain ⟨v, v2, rfl, rv, rm⟩ := dpa2 r
    cases rm
    have rm : Dp K (hid M H) (.int 2) (.int 2) := .int _
    refine y_forRN (m := 3) a (en_roll dj rfl (n := 3) (by walk_at "ed") ⟨by decide, by decide⟩) (by decide) (fun i σ' H' => ∃ v' x y z b', σ' = [some (.ref p), some v', some (.int 2), x, y, z] ∧ Dp K (hid M H') v' (encB b') ∧ ∀ n C, Gr n C b → n ≤ 10 → C ≤ 100 → Gr (n + i) (C + 3 * i) b') (fun H1 a1 => ⟨v, _, _, _, b, rfl, Dpx a1.x.ex rv, fun n C h _ _ => h.mono (by omega) (by omega)⟩)
      (fun i σ' H' hi a1 ⟨v', x, y, z, b', e, rv', hg⟩ => ?_) (fun i σ' H' hi a1 ⟨v', x, y, z, b', e, rv', hg⟩ => ?_)
    · subst e
      have hgb := hg n0 C0 hg0 hn0 hC0
      obtain ⟨c, l, ec, hl⟩ := last_ex hgb.ok.pos
      have hat : atI (b'.map encP) (-1) = some (encP l) := by
        rw [ec, List.map_append]
        exact atI_last
      have a2 := a1.here
      show tSeq _ _ _ [some (.ref p), some v', some (.int 2), some (.int (i : Int)), y, z] H'
      refine y_unI (n := l.1) (m := l.2) a2 (by walk_at "ed") fun H2 a3 => ?_
      show tAsg _ _ _ [some (.ref p), some v', some (.int 2), some (.int (i : Int)), some (.int l.1), some (.int l.2)] H2
      have hlen := hgb.len
      have hi2 : i ≤ 1 := by omega
      refine m_asgE (K := K) (R := fun d => ∃ r s : Int, d = encB (b' ++ [(l.1 + 1 + r, l.2 + s)]) ∧ 0 ≤ r ∧ r < 3 ∧ 0 ≤ s ∧ s < 4) a3 ?_ fun v'' H3 d a4 eG hR rd => ?_
      · have r1 : Dp K (hid M H') (.int l.1) (.int l.1) := .int _
        have r2 : Dp K (hid M H') (.int l.2) (.int l.2) := .int _
        refine en_op (en_D (ed_var rfl rv')) (en_tup (ena_cons (en_tup (ena_cons (en_op (U1 := fun z => z = .int (l.1 + 1)) (R := fun z => ∃ r, z = .int (l.1 + 1 + r) ∧ 0 ≤ r ∧ r < 3) (en_D (by walk_at "ed")) (en_roll dj rfl (n := 3) (by walk_at "ed") ⟨by decide, by decide⟩) ?_)
          (ena_cons (en_op (U1 := fun z => z = .int l.2) (R := fun z => ∃ s, z = .int (l.2 + s) ∧ 0 ≤ s ∧ s < 4) (en_D (by walk_at "ed")) (en_roll dj rfl (n := 4) (by walk_at "ed") ⟨by decide, by decide⟩) ?_) ena_nil)) ?_) ena_nil) ?_) ?_
        · rintro _ _ rfl ⟨r, rfl, r0, r1⟩
          exact ⟨_, rg_add, r, rfl, r0, r1⟩
        · rintro _ _ rfl ⟨r, rfl, r0, r1⟩
          exact ⟨_, rg_add, r, rfl, r0, r1⟩
        · rintro ds ⟨d1, ds1, rfl, _, d2, ds2, rfl, _, rfl⟩
          simp
        · rintro ds ⟨d1, ds1, rfl, _, rfl⟩
          simp
        · rintro _ _ rfl ⟨ds, rfl, d1, ds1, rfl, ⟨es, rfl, d2, ds2, rfl, ⟨r, rfl, r0, r1⟩, d3, ds3, rfl, ⟨s, rfl, s0, s1⟩, rfl⟩, rfl⟩
          refine ⟨_, rg_catT (by simp; omega), r, s, ?_, r0, r1, s0, s1⟩
          show PyData.tuple (b'.map encP ++ [encP (l.1 + 1 + r, l.2 + s)]) = PyData.tuple ((b' ++ [(l.1 + 1 + r, l.2 + s)]).map encP)
          rw [List.map_append]
          rfl
      · obtain ⟨r, s, rfl, r0, r1, s0, s1⟩ := hR
        refine ⟨⟨⟨a4.x.tk, a1.x.ex.trans eG⟩, a4.j, a4.u⟩, v'', _, _, _, _, rfl, rd, fun n C h h1 h2 => ?_⟩
        have g := gr_step (hg n C h h1 h2) hl (by omega) (by omega) r0 r1 s0 s1
        exact g.mono (by omega) (by omega)
    · subst e
      refine m_ret a1.here (en_D (ed_var rfl rv')) fun v H1 d e2 a2 hd rd => q v H1 d (a1.x.ex.trans e2) ⟨⟨a2.x.tk, a1.x.ex.trans a2.x.ex⟩, a2.j, a2.u⟩ ⟨b, b', rfl, hd, fun n C h h1 h2 => (hg n C h h1 h2).mono (by omega) (by omega)⟩ rd
variable (c__law_more : Cal P w K mg base "_law_more" 2 ["dice", "branch", "most"] (spD K (fun ds => ∃ b n C, ds = [encB b, .int 2] ∧ Gr n C b ∧ n ≤ 10 ∧ C ≤ 100) fun ds d => ∃ b b', ds = [encB b, .int 2] ∧ d = encB b' ∧ ∀ n C, Gr n C b → n ≤ 10 → C ≤ 100 → Gr (n + 2) (C + 6) b'))
include c__law_more
theorem cal__law_two (F : FnP K "_law_two" s__law_two f fd) (hm : mg "_law_two" = some (.ref f)) :
    Cal P w K mg base "_law_two" 3 ["dice"] (spD K (fun ds => ds = []) fun ds d => ∃ s t, d = .list [encS s, encS t] ∧ Dr s ∧ Dr t) :=
  cal_N F hm sc__law_two (F.bindsN fun _ _ _ _ _ _ us hl => match us, hl with | [_], _ => rfl) (fun ds e => by rw [e]; rfl) fun cdv A outer s H vs Q E hr => by
    have nd := sc__law_two.nd
    have hu64 := hr.units
    have hu := hr.units0
    refine ⟨_, PSs.nox (pss_cons (ps_par (i := 1) (j := 2) rfl nd rfl rfl (by decide) rfl rfl (pa_cons (pe_callC c__law_more hr (by rfl) passL (pa_cons (pv 0) (pa_cons (pe_tup (pa_cons (pe_tup (pa_cons pe_int (pa_cons pe_int pa_nil))) pa_nil)) (pa_cons pe_int pa_nil)))) (pa_cons (pe_lst pa_nil) pa_nil)) (by rfl)) (pss_cons (ps_for PassesOwn.never rfl (pi_range1 (by rfl) B.range (pa_cons pe_int pa_nil)) (pg_name (i := 3) nd rfl (by first | exact Or.inl rfl | exact Or.inr rfl)) (pss_cons (ps_set (i := 4) nd rfl (by first | exact Or.inl rfl | exact Or.inr rfl) (pe_ifExp (pt_cmpR (r := rGtG K) (op_gtG hu) (pe_callC c__law_roll hr (by rfl) passL (pa_cons (pv 0) (pa_cons pe_int pa_nil))) pe_int (nomark _)) (pe_callC c__law_more hr (by rfl) passL (pa_cons (pv 0) (pa_cons (pv 1) (pa_cons pe_int pa_nil)))) (pv 1))) (pss_one (ps_expr (pe_bm PySem.F.plainAttrs_list PySem.F.slot_list_append PySem.F.type_list_append mt_append (pv 2) (pa_cons (pe_tup (pa_cons (pv 4) (pa_cons (pe_op (r := rAddG K) op_addG (pe_ix (r := rIx K) ix_seq (pe_ix (r := rIx K) ix_seq (pv 4) (pe_un un_neg pe_int) (fun _ _ => rfl)) pe_int (fun _ _ => rfl)) (pe_callC c__law_roll hr (by rfl) passL (pa_cons (pv 0) (pa_cons pe_int pa_nil)))) pa_nil))) pa_nil)))))) (pss_one (ps_ret (pv 2))))), ?_⟩
    rintro M J p ws ds rfl a dj r rfl q
    cases r
    refine en_callD (K := K) (ds := [encB [(0, 0)], .int 2]) dj rfl (eda_cons (by walk_at "ed") (by walk_at "eda")) ⟨[(0, 0)], 1, 0, rfl, gr_zero, by decide, by decide⟩ H a _ fun v H1 d eH a1 hF rv => ?_
    obtain ⟨b0, b', e0, rfl, hg⟩ := hF
    have eb : [(0, 0)] = b0 := encB_inj (List.cons.inj e0).1
    subst eb
    have gb : Gr 3 6 b' := hg 1 0 gr_zero (by decide) (by decide)
    refine ⟨by decide, fun l hl => ⟨v, .ref l, rfl, ?_⟩⟩
    have nl : ¬ M l := fun z => a1.x.tk l z hl
    have lp : l ≠ p := fun z => nl (z ▸ dj.m)
    let Q0 : Nat → List PyData → Prop := fun i ds => ∃ ss : List (Br × Int), ds = ss.map encS ∧ (∀ s ∈ ss, Dr s) ∧ ss.length = i
    have a2 : Ax (Mor M l) (JL K M J l (Q0 0)) (hid (Mor M l) (upd H1 l (.lst []))) (upd H1 l (.lst [])) := JL.start a1 hl ⟨[], rfl, fun _ h => (nomatch h), rfl⟩
    have rb : Dp K (hid (Mor M l) (upd H1 l (.lst []))) v (encB b') := Dpx (hid_or hl (Ex.new hl)) rv
    generalize hG : hid (Mor M l) (upd H1 l (.lst [])) = G2 at a2 rb
    show tSeq _ _ _ [some (.ref p), some v, some (.ref l), none, none] _
    refine y_forRP (K := K) (n := 2) a2 (by walk_at "eda") (by decide) (fun i σ' H' => Ax (Mor M l) (JL K M J l (Q0 i)) G2 H' ∧ ∃ x y, σ' = [some (.ref p), some v, some (.ref l), x, y]) (fun H3 a3 => ⟨a3, _, _, rfl⟩) (fun i σ' H' hi ⟨a3, x, y, e⟩ => ?_) (fun σ' H' ⟨a3, x, y, e⟩ => ?_)
    · subst e
      have djl : DJ p (Mor M l) (JL K M J l (Q0 i)) := JL.dj dj lp
      show tSeq _ _ _ [some (.ref p), some v, some (.ref l), some (.int (i : Int)), y] H'
      refine m_asg (K := K) (R := fun d => ∃ b, d = encB b ∧ Gr 5 12 b) a3 (en_if (RB := fun _ => True) (enb_tst (en_op (R := fun z => ∃ b, z = .bool b) (en_roll djl rfl (n := 4) (by walk_at "ed") ⟨by decide, by decide⟩) (en_D (K := K) (d := .int 0) (by walk_at "ed")) ?_) ?_) (fun _ => en_imp (en_callD djl rfl (ds := [encB b', .int 2]) (by walk_at "eda") ⟨b', 3, 6, rfl, gb, by decide, by decide⟩) ?_) (fun _ => en_imp (en_D (ed_var rfl rb)) ?_)) fun vb H3 d a4 eG hR rd => ?_
      · rintro _ _ ⟨r, rfl, _⟩ rfl
        exact ⟨_, rg_gt, _, rfl⟩
      · rintro _ ⟨b, rfl⟩
        exact ⟨b, rfl, trivial⟩
      · rintro _ ⟨b1, b2, e1, rfl, h1⟩
        have eb := encB_inj (List.cons.inj e1).1
        subst eb
        exact ⟨b2, rfl, h1 3 6 gb (by decide) (by decide)⟩
      · rintro _ rfl
        exact ⟨b', rfl, gb.mono (by decide) (by decide)⟩
      obtain ⟨b2, rfl, g2⟩ := hR
      obtain ⟨c, lst, ec, hlst⟩ := last_ex g2.ok.pos
      have hat : atI (b2.map encP) (-1) = some (encP lst) := by
        rw [ec, List.map_append]
        exact atI_last
      have hlm : lst ∈ b2 := List.mem_of_getLast? hlst
      show tDrop _ _ [some (.ref p), some v, some (.ref l), some (.int (i : Int)), some vb] H3
      refine m_append (K := K) (l := l) (R := fun d => ∃ s, d = encS s ∧ Dr s) a4 rfl (fun H4 ⟨_, xs, ds, h, r, ss, e, _, hn⟩ => ⟨xs, h, ?_⟩) (en_imp (en_tup (ena_cons (en_D (ed_var rfl rd)) (ena_cons (en_op (U1 := fun z => z = .int lst.2) (R := fun z => ∃ r, z = .int (lst.2 + r) ∧ 0 ≤ r ∧ r < 5) (en_D (by walk_at "ed")) (en_roll djl rfl (n := 5) (by walk_at "ed") ⟨by decide, by decide⟩) ?_) ena_nil)) ?_) ?_) fun vd H4 d xs a5 hR rv4 hxs => ?_
      · rw [dpa_len r, e, List.length_map, hn]
        omega
      · rintro _ _ rfl ⟨r, rfl, r0, r1⟩
        exact ⟨_, rg_add, r, rfl, r0, r1⟩
      · rintro ds ⟨d1, ds1, rfl, _, d2, ds2, rfl, _, rfl⟩
        simp
      · rintro _ ⟨ds, rfl, d1, ds1, rfl, rfl, d2, ds2, rfl, ⟨r, rfl, r0, r1⟩, rfl⟩
        obtain ⟨g1, g2', g3, g4⟩ := g2.ok.rng lst hlm
        have gbn := g2.bnd lst hlm
        refine ⟨(b2, lst.2 + r), rfl, ⟨g2.ok, fun p hp => ?_, ?_⟩, g2, ?_⟩
        · rw [hlst] at hp
          cases hp
          dsimp only
          omega
        · dsimp only
          omega
        · dsimp only
          omega
      obtain ⟨s, rfl, hs⟩ := hR
      have a6 : Ax (Mor M l) (JL K M J l (Q0 (i + 1))) _ _ := JL.more a5 a.u hxs rv4 fun ds ⟨ss, e, h1, h2⟩ => ⟨ss ++ [s], by rw [e, List.map_append]; rfl, fun t ht => by
        rcases List.mem_append.mp ht with ht | ht
        · exact h1 t ht
        · rw [List.mem_singleton.mp ht]; exact hs, by rw [List.length_append, h2]; rfl⟩
      exact ⟨⟨⟨a6.x.tk, eG.trans a6.x.ex⟩, a6.j, a6.u⟩, _, _, rfl⟩
    · subst e
      obtain ⟨j, ds, rd, ss, e, h1, h2⟩ := JL.done a3 a.u nl
      obtain ⟨s, t, rfl⟩ : ∃ s t, ss = [s, t] := by
        match ss, h2 with
        | [s, t], _ => exact ⟨s, t, rfl⟩
      have ex1 : Ex (hid M H) (hid M H') := (eH.trans (hG ▸ hid_or hl (Ex.new hl))).trans (a3.x.ex.trans hid_less)
      subst e
      exact ⟨_, rfl, q _ H' _ ex1 ⟨⟨fun b hb => a3.x.tk b (.inl hb), ex1⟩, j, a.u⟩ ⟨s, t, rfl, h1 s (by simp), h1 t (by simp)⟩ rd⟩
end
end K95
end
section
set_option Elab.async false
set_option linter.all false
set_option maxRecDepth 100000
set_option maxHeartbeats 4000000
/-! The walk: the law's own rows, its own shared place. -/
namespace K95
open PySem PySem.Spec PyProof.Rows L2 Evl DL
/-! ### the reading by data, step by step: local words -/
local macro_rules | `(tactic| walk_at "fact") => `(tactic| first | assumption | rfl | omega | decide | (simp; done) | (simp; omega))
local macro_rules | `(tactic| walk_at "callR") => `(tactic| first | exact ⟨_, rfl, rfl⟩ | exact ⟨_, _, rfl, rfl⟩ | exact ⟨_, rfl, by walk_at "fact", rfl⟩ | exact ⟨_, _, rfl, by walk_at "fact", rfl⟩ | exact ⟨_, _, _, rfl, rfl⟩)
local macro_rules | `(tactic| walk_at "callX") => `(tactic| first | exact .inr ⟨_, _, rfl, by walk_at "fact", rfl⟩ | exact .inr (.inr ⟨_, _, rfl, by walk_at "fact", rfl⟩))
local macro_rules | `(tactic| walk_at "rd") => `(tactic| first
  | with_reducible exact rg_add | with_reducible exact rd_sub | with_reducible exact rd_lt | with_reducible exact rd_le | with_reducible exact rg_gt | with_reducible exact rg_gtT | with_reducible exact rd_ge
  | exact rd_ixT (by walk_at "fact") | exact rd_ixL (by walk_at "fact")
  | exact rg_catT (by walk_at "fact") | exact rg_catL (by walk_at "fact") | exact rg_catS (by walk_at "fact")
  | exact rd_eq (by walk_at "fact") (by walk_at "fact") | exact rd_ne (by walk_at "fact") (by walk_at "fact")
  | exact rd_isB | exact rd_notB | exact rd_inS | exact rd_ninS
  | exact rd_mod (by walk_at "fact") | exact rd_fdivW (by walk_at "fact") | exact rg_mul (by walk_at "fact") | exact rd_pow (by walk_at "fact"))
local macro_rules | `(tactic| walk_at "rc") => `(tactic| first
  | with_reducible exact rc_lenT | with_reducible exact rc_lenL | with_reducible exact rc_tupleL | with_reducible exact rc_listT | with_reducible exact rc_listL | with_reducible exact rc_max2 | with_reducible exact rc_min2 | with_reducible exact rc_abs | with_reducible exact rc_int | with_reducible exact rc_intB | with_reducible exact rc_reprB)
local macro_rules | `(tactic| walk_at "eda") => `(tactic| first
  | with_reducible exact eda_nil
  | ((with_reducible refine' eda_cons ?k1 ?k2); (case k1 => walk_at "ed0"); (case k2 => walk_at "eda"))
  | ((with_reducible refine' eda_starL ?k1 ?k2); (case k1 => walk_at "ed0"); (case k2 => walk_at "eda"))
  | ((with_reducible refine' eda_starT ?k1 ?k2); (case k1 => walk_at "ed0"); (case k2 => walk_at "eda")))
local macro_rules | `(tactic| walk_at "ed0") => `(tactic| first
  | with_reducible exact ed_int | with_reducible exact ed_str | with_reducible exact ed_bl | with_reducible exact ed_non
  | ((with_reducible refine' ed_var ?k1 ?k2); (case k1 => rfl); (case k2 => assumption))
  | ((with_reducible refine' ed_isi ?k1 ?k2); (case k1 => walk_at "ed0"); (case k2 => first | exact kit_int _ | exact kit_bool _ | exact kit_tup _ | exact kit_str _))
  | ((with_reducible refine' ed_op ?k1 ?k2 ?k3); (case k1 => walk_at "ed0"); (case k2 => walk_at "ed0"); (case k3 => walk_at "rd"))
  | ((with_reducible refine' ed_neg ?k1); (case k1 => walk_at "ed0"))
  | ((with_reducible refine' ed_cb ?k1 ?k2); (case k1 => walk_at "eda"); (case k2 => walk_at "rc"))
  | ((with_reducible refine' ed_call ?k1 ?k2); (case k1 => walk_at "eda"); (case k2 => walk_at "callR"))
  | ((with_reducible refine' ed_callX ?k1 ?k2); (case k1 => walk_at "eda"); (case k2 => walk_at "callX"))
  | ((with_reducible refine' ed_tup ?k1 ?k2); (case k1 => walk_at "eda"); (case k2 => walk_at "fact"))
  | ((with_reducible refine' ed_lst ?k1 ?k2); (case k1 => walk_at "eda"); (case k2 => walk_at "fact"))
  | ((with_reducible refine' ed_slT ?k1 ?k2 ?k3); (case k1 => walk_at "ed0"); (case k2 => walk_at "eo"); (case k3 => walk_at "eo"))
  | ((with_reducible refine' ed_slL ?k1 ?k2 ?k3); (case k1 => walk_at "ed0"); (case k2 => walk_at "eo"); (case k3 => walk_at "eo"))
  | ((with_reducible refine' ed_and ?k1 (fun _ => ?k2)); (case k1 => walk_at "ed0"); (case k2 => walk_at "ed0"))
  | ((with_reducible refine' ed_or ?k1 (fun _ => ?k2)); (case k1 => walk_at "ed0"); (case k2 => walk_at "ed0"))
  | ((with_reducible refine' ed_not ?k1); (case k1 => walk_at "ed0"))
  | ((with_reducible refine' ed_chain ?k1 ?k2 ?k3 (fun _ => ?k4) (fun _ => ?k5)); (case k1 => walk_at "ed0"); (case k2 => walk_at "ed0"); (case k3 => walk_at "rd"); (case k4 => walk_at "ed0"); (case k5 => walk_at "rd"))
  | ((with_reducible refine' ed_ifv ?k1 (fun _ => ?k2) (fun _ => ?k3)); (case k1 => walk_at "eb0"); (case k2 => walk_at "ed0"); (case k3 => walk_at "ed0"))
  | ((with_reducible refine' ed_listZip ?k1); (case k1 => walk_at "eda")))
local macro_rules | `(tactic| walk_at "eo") => `(tactic| first
  | with_reducible exact eo_no
  | ((with_reducible refine' eo_part ?k1); (case k1 => walk_at "ed0")))
local macro_rules | `(tactic| walk_at "eb0") => `(tactic| first
  | ((with_reducible refine' eb_and ?k1 (fun _ => ?k2)); (case k1 => walk_at "eb0"); (case k2 => walk_at "eb0"))
  | ((with_reducible refine' eb_or ?k1 (fun _ => ?k2)); (case k1 => walk_at "eb0"); (case k2 => walk_at "eb0"))
  | ((with_reducible refine' eb_not ?k1); (case k1 => walk_at "eb0"))
  | ((with_reducible refine' et_tst ?k1); (case k1 => walk_at "ed0"))
  | ((with_reducible refine' et_Bv ?k1); (case k1 => walk_at "ed0")))
local macro_rules | `(tactic| walk_at "ed") => `(tactic| (refine' EvD.is ?k1 ?k2; (case k1 => walk_at "ed0"); (case k2 => first | rfl | (simp; done))))
local macro_rules | `(tactic| walk_at "eb") => `(tactic| (refine' EvB.is ?k1 ?k2; (case k1 => walk_at "eb0"); (case k2 => first | rfl | (simp; done))))
local macro_rules | `(tactic| walk_at "len") => `(tactic| (intro ds d h; first | (obtain ⟨a, e, _⟩ := h; rw [e]; rfl; done) | (obtain ⟨a, b, e, _⟩ := h; (rw [e]; rfl); done)))
section
variable {P : Program} {w : World} {K : PySem.W.Frag} {mg : Str → Option Value} {base : Heap} {f : Addr} {fd : FuncData} (B : Bi mg)
include B
theorem cal__law_under (F : FnP K "_law_under" s__law_under f fd) (hm : mg "_law_under" = some (.ref f)) : Cal P w K mg base "_law_under" 1 ["stand"] (spG K (fun ds d => ∃ s : Br × Int, ds = [encS s] ∧ (BrOk s.1 ∧ 0 ≤ s.2 ∧ s.2 ≤ 1000) ∧ d = .list ((under s).map encP))) :=
  cal_D F hm sc__law_under (F.bindsN fun _ _ _ _ _ _ us hl => match us, hl with | [_], _ => rfl) (by walk_at "len") fun cdv A outer s H vs Q E hr => by
    have nd := sc__law_under.nd
    have hu64 := hr.units
    have hu := hr.units0
    refine ⟨_, PSs.nox (pss_cons (ps_asg (pv 0) (pg_tupK (K := K) rfl rfl (pgs_cons (pg_name (i := 1) nd rfl (by first | exact Or.inl rfl | exact Or.inr rfl)) (pgs_cons (pg_name (i := 2) nd rfl (by first | exact Or.inl rfl | exact Or.inr rfl)) pgs_nil)))) (pss_cons (ps_set (i := 3) nd rfl (by first | exact Or.inl rfl | exact Or.inr rfl) (pe_lst pa_nil)) (pss_cons (ps_for PassesOwn.never rfl (pi_range1 (by rfl) B.range (pa_cons (pv 2) pa_nil)) (pg_name (i := 4) nd rfl (by first | exact Or.inl rfl | exact Or.inr rfl)) (pss_one (ps_expr (pe_bm PySem.F.plainAttrs_list PySem.F.slot_list_append PySem.F.type_list_append mt_append (pv 3) (pa_cons (pe_ix (r := rIx K) ix_seq (pe_lc (own := [("pair", 5)]) (g := gName 5) rfl nd (pi_seqK (K := K) rfl (pv 1)) (blkOk_by (N := N__law_under) (sc := defScope s__law_under) (by decide +kernel)) (fun _ _ _ _ _ => pg_name (i := 5) nd rfl (by first | exact Or.inl rfl | exact Or.inr rfl)) (fun _ _ _ _ _ => (pts_one (pt_cmpR op_leG (pe_ix (r := rIx K) ix_seq (pv 5) pe_int (fun _ _ => rfl)) (pv 4) (nomark _)))) (fun _ _ _ _ _ => (pv 5))) (pe_un un_neg pe_int) (fun _ _ => rfl)) pa_nil))))) (pss_one (ps_ret (pv 3)))))), ?_⟩
    rintro M ds0 d hM r ⟨s, rfl, ⟨hs, h0, h1⟩, rfl⟩ q
    obtain ⟨v, rfl, ra⟩ := dpa1 r
    refine y_unT (.start hM) (ed_var rfl ra) fun vb vp H1 a1 eG rb rp => ?_
    cases rp
    show tSeq _ _ _ [some v, some vb, some (.int s.2), none, none, none] H1
    refine y_newL fun l hl => ?_
    have nl : ¬ M l := fun z => a1.x.tk l z hl
    let Q0 : Nat → List PyData → Prop := fun i ds => ds = ((List.range i).map fun k : Nat => lastUp s.1 (k : Int)).map encP
    have a2 : Ax (Mor M l) (JL K M (Ex H) l (Q0 0)) (hid (Mor M l) (upd H1 l (.lst []))) (upd H1 l (.lst [])) := JL.start a1 hl rfl
    have rb : Dp K (hid (Mor M l) (upd H1 l (.lst []))) vb (encB s.1) := Dpx (hid_or hl (Ex.new hl)) rb
    generalize hG : hid (Mor M l) (upd H1 l (.lst [])) = G2 at a2 rb
    have rp : Dp K G2 (.int s.2) (.int s.2) := .int _
    show tSeq _ _ _ [some v, some vb, some (.int s.2), some (.ref l), none, none] _
    refine y_forRP (K := K) (n := s.2) a2 (by walk_at "eda") (by omega) (fun i σ' H' => Ax (Mor M l) (JL K M (Ex H) l (Q0 i)) G2 H' ∧ ∃ x y, σ' = [some v, some vb, some (.int s.2), some (.ref l), x, y]) (fun H3 a3 => ⟨a3, _, _, rfl⟩) (fun i σ' H' hi ⟨a3, x, y, e⟩ => ?_) (fun σ' H' ⟨a3, x, y, e⟩ => ?_)
    · subst e
      show tDrop _ _ [some v, some vb, some (.int s.2), some (.ref l), some (.int (i : Int)), y] H'
      have ri : Dp K G2 (.int (i : Int)) (.int (i : Int)) := .int _
      let F : PyData → Bool := fun d => match d with | .tuple [_, .int y] => decide (y ≤ (i : Int)) | _ => false
      have hf : ((s.1.map encP).filter F).map (fun d => d) = (s.1.filter fun x => decide (x.2 ≤ (i : Int))).map encP := by
        rw [List.map_id', List.filter_map]
        rfl
      obtain ⟨c, ec⟩ := up_ne hs (i := (i : Int)) (by omega)
      have hat : atI ((s.1.filter fun x => decide (x.2 ≤ (i : Int))).map encP) (-1) = some (encP (lastUp s.1 (i : Int))) := by
        rw [ec, List.map_append]
        exact atI_last
      have lb := hs.len
      have hev : EvD K (tLc (iSeq K (tVar 1)) (gName 5) (tTest (tOp (rI0 fun i j => .bl (decide (i ≤ j))) (tOp (rIx K) (tVar 5) (tC (.int 1))) (tVar 4))) (tVar 5) [5]) [some v, some vb, some (.int s.2), some (.ref l), some (.int (i : Int)), y] G2 (.list (((s.1.map encP).filter F).map fun d => d)) :=
        ed_lc F (fun d => d) (ed_var rfl rb) (.inr rfl) (by rw [List.length_map]; omega) fun d hd => by
          obtain ⟨z, _, rfl⟩ := List.mem_map.mp hd
          exact lct_name (fun _ => rfl) fun x H1 e1 rx => by
            replace ri := Dpx e1 ri
            unfold encP at rx
            exact ⟨by walk_at "eb", fun _ => ed_var rfl rx⟩
      refine m_append (K := K) (l := l) (R := fun d => d = encP (lastUp s.1 (i : Int))) a3 rfl (fun H4 ⟨_, xs, ds, h, r, e⟩ => ⟨xs, h, ?_⟩) (en_D (ed_op (EvD.is hev (congrArg PyData.list hf)) (by walk_at "ed") (rd_ixL hat))) fun vd H4 d xs a5 hR rv4 hxs => ?_
      · rw [dpa_len r, e, List.length_map, List.length_map, List.length_range]
        omega
      subst hR
      exact ⟨JL.more a5 up_ex hxs rv4 fun ds e => by
        show ds ++ [_] = _
        rw [e, List.range_succ, List.map_append, List.map_append]
        rfl, _, _, rfl⟩
    · subst e
      obtain ⟨j, ds, rd, e⟩ := JL.done a3 up_ex nl
      have e' : ds = (under s).map encP := e
      subst e'
      exact ⟨_, rfl, q _ H' j rd⟩
variable (c__law_under : Cal P w K mg base "_law_under" 1 ["stand"] (spG K fun ds d => ∃ s : Br × Int, ds = [encS s] ∧ (BrOk s.1 ∧ 0 ≤ s.2 ∧ s.2 ≤ 1000) ∧ d = .list ((under s).map encP)))
include c__law_under
theorem cal__law_shared (F : FnP K "_law_shared" s__law_shared f fd) (hm : mg "_law_shared" = some (.ref f)) : Cal P w K mg base "_law_shared" 2 ["one", "other"] (spG K (fun ds d => ∃ s t : Br × Int, ds = [encS s, encS t] ∧ ((BrOk s.1 ∧ 0 ≤ s.2 ∧ s.2 ≤ 1000) ∧ (BrOk t.1 ∧ 0 ≤ t.2 ∧ t.2 ≤ 1000)) ∧ d = .int (sharedIn s t))) :=
  cal_D F hm sc__law_shared (F.bindsN fun _ _ _ _ _ _ us hl => match us, hl with | [_, _], _ => rfl) (by walk_at "len") fun cdv A outer s H vs Q E hr => by
    have nd := sc__law_shared.nd
    have hu64 := hr.units
    have hu := hr.units0
    refine ⟨_, PSs.nox (pss_cons (ps_par (i := 2) (j := 3) rfl nd rfl rfl (by decide) rfl rfl (pa_cons (pe_callC c__law_under hr (by rfl) passL (pa_cons (pv 0) pa_nil)) (pa_cons (pe_callC c__law_under hr (by rfl) passL (pa_cons (pv 1) pa_nil)) pa_nil)) (by rfl)) (pss_cons (ps_set (i := 4) nd rfl (by first | exact Or.inl rfl | exact Or.inr rfl) (pe_callB (call_min2' rfl) (by rfl) B.min (by decide +kernel) (pa_cons (pe_callB (r := rLenS K) call_lenS (by rfl) B.len (by decide +kernel) (pa_cons (pv 2) pa_nil)) (pa_cons (pe_callB (r := rLenS K) call_lenS (by rfl) B.len (by decide +kernel) (pa_cons (pv 3) pa_nil)) pa_nil)))) (pss_cons (ps_for PassesOwn.never rfl (pi_range1 (by rfl) B.range (pa_cons (pe_callB (call_max2' rfl) (by rfl) B.max (by decide +kernel) (pa_cons (pe_callB (r := rLenS K) call_lenS (by rfl) B.len (by decide +kernel) (pa_cons (pe_ix (r := rIx K) ix_seq (pv 0) pe_int (fun _ _ => rfl)) pa_nil)) (pa_cons (pe_callB (r := rLenS K) call_lenS (by rfl) B.len (by decide +kernel) (pa_cons (pe_ix (r := rIx K) ix_seq (pv 1) pe_int (fun _ _ => rfl)) pa_nil)) pa_nil))) pa_nil)) (pg_name (i := 5) nd rfl (by first | exact Or.inl rfl | exact Or.inr rfl)) (pss_one (ps_if (pt_cmpR (r := rNeD K) (op_neD hu64) (pe_slice (r := rSlG K) sl_G (pe_ix (r := rIx K) ix_seq (pv 0) pe_int (fun _ _ => rfl)) (po_some (pv 5)) (po_some (pe_op (r := rAddG K) op_addG (pv 5) pe_int))) (pe_slice (r := rSlG K) sl_G (pe_ix (r := rIx K) ix_seq (pv 1) pe_int (fun _ _ => rfl)) (po_some (pv 5)) (po_some (pe_op (r := rAddG K) op_addG (pv 5) pe_int))) (nomark _)) (pss_cons (ps_set (i := 4) nd rfl (by first | exact Or.inl rfl | exact Or.inr rfl) (pe_callB (r := rMin K) (cr_min rfl) (by rfl) B.min (by decide +kernel) (pa_cons (pe_op (r := rAddG K) op_addG (pe_lst (pa_cons (pv 4) pa_nil)) (pe_lc (own := [("pair", 6)]) (g := gName 6) (tt := tYes) rfl nd (pi_seqK (K := K) rfl (pe_op (r := rAddG K) op_addG (pe_slice (r := rSlG K) sl_G (pe_ix (r := rIx K) ix_seq (pv 0) pe_int (fun _ _ => rfl)) (po_some (pv 5)) (po_some (pe_op (r := rAddG K) op_addG (pv 5) pe_int))) (pe_slice (r := rSlG K) sl_G (pe_ix (r := rIx K) ix_seq (pv 1) pe_int (fun _ _ => rfl)) (po_some (pv 5)) (po_some (pe_op (r := rAddG K) op_addG (pv 5) pe_int))))) (blkOk_by (N := N__law_shared) (sc := defScope s__law_shared) (by decide +kernel)) (fun _ _ _ _ _ => pg_name (i := 6) nd rfl (by first | exact Or.inl rfl | exact Or.inr rfl)) (fun _ _ _ _ _ => pts_nil) (fun _ _ _ _ _ => (pe_ix (r := rIx K) ix_seq (pv 6) pe_int (fun _ _ => rfl))))) pa_nil))) (pss_one (ps_ret (pe_ifExp (pt_cmpR (r := rEqD K) (op_eqD hu64) (pe_slice (r := rSlG K) sl_G (pv 2) po_none (po_some (pv 4))) (pe_slice (r := rSlG K) sl_G (pv 3) po_none (po_some (pv 4))) (nomark _)) (pv 4) (pe_un un_neg pe_int))))) pss_nil))) (pss_one (ps_ret (pe_ifExp (pt_cmpR (r := rEqD K) (op_eqD hu64) (pe_slice (r := rSlG K) sl_G (pv 2) po_none (po_some (pv 4))) (pe_slice (r := rSlG K) sl_G (pv 3) po_none (po_some (pv 4))) (nomark _)) (pv 4) (pe_un un_neg pe_int))))))), ?_⟩
    rintro M ds0 d hM r ⟨s, t, rfl, ⟨hs, ht⟩, rfl⟩ q
    obtain ⟨v, v2, rfl, ra, rb⟩ := dpa2 r
    have hle := shared_le (s := s) (t := t)
    have h0 := shared_nonneg hs.1 ht.1 hs.2.1 ht.2.1
    have l1 := hs.1.len
    have l2 := ht.1.len
    refine y_par (.start hM) (by walk_at "eda") fun vl vr H1 a1 eG rl rr => ?_
    replace ra := Dpx eG ra
    replace rb := Dpx eG rb
    generalize hG : hid M H1 = G1 at a1 ra rb rl rr
    show tSeq _ _ _ [some v, some v2, some vl, some vr, none, none, none] H1
    have em : min (((under s).map encP).length : Int) (((under t).map encP).length : Int) = min s.2 t.2 := by
      rw [List.length_map, List.length_map, under_len, under_len]
      omega
    refine y_asgI (K := K) (n := min s.2 t.2) a1 (by rw [← em]; walk_at "ed") fun H2 a2 => ?_
    show tSeq _ _ _ [some v, some v2, some vl, some vr, some (.int (min s.2 t.2)), none, none] H2
    have fin : ∀ σ' H3, Ax M (Ex H) G1 H3 → (∃ x y, σ' = [some v, some v2, some vl, some vr, some (.int (sharedIn s t)), x, y]) → EvD K (tIf (tTest (tOp (rEqD K) (tSl (rSlG K) (tVar 2) tNoPart (tPart (tVar 4))) (tSl (rSlG K) (tVar 3) tNoPart (tPart (tVar 4))))) (tVar 4) (tUn (rU fun i => .int (-i)) (tC (.int 1)))) σ' G1 (.int (sharedIn s t)) := by
      rintro σ' H3 a3 ⟨x, y, rfl⟩
      have rs : Dp K G1 (.int (sharedIn s t)) (.int (sharedIn s t)) := .int _
      have e1 : cutD ((under s).map encP) none (some (sharedIn s t)) = ((under s).take (sharedIn s t).toNat).map encP := by
        rw [show sharedIn s t = ((sharedIn s t).toNat : Int) by omega, cut_to, Int.toNat_natCast, List.map_take]
      have e2 : cutD ((under t).map encP) none (some (sharedIn s t)) = ((under t).take (sharedIn s t).toNat).map encP := by
        rw [show sharedIn s t = ((sharedIn s t).toNat : Int) by omega, cut_to, Int.toNat_natCast, List.map_take]
      have f1 : SeqAt.shaped (.list (cutD ((under s).map encP) none (some (sharedIn s t)))) = true := by rw [e1]; exact (sh_lst (sh_map fun _ => sh_encP)).ok
      have f2 : SeqAt.shaped (.list (cutD ((under t).map encP) none (some (sharedIn s t)))) = true := by rw [e2]; exact (sh_lst (sh_map fun _ => sh_encP)).ok
      refine ed_if (b := true) (EvB.is (by walk_at "eb0") ?_) (fun _ => ed_var rfl rs) (fun z => by cases z)
      rw [e1, e2, eqv_lst, eqva_encB, rows_eq hs.1 ht.1 hs.2.1 ht.2.1]
      simp
    refine y_forR (K := K) (n := max ((s.1.map encP).length : Int) ((t.1.map encP).length : Int)) a2 (by walk_at "eda") (by rw [List.length_map, List.length_map]; omega) (fun i σ' H' => (∃ x, σ' = [some v, some v2, some vl, some vr, some (.int (min s.2 t.2)), x, none]) ∧ s.1.take i = t.1.take i) (fun H1 a1 => ⟨⟨_, rfl⟩, rfl⟩) (fun i σ' H' hi a3 ⟨⟨y, e⟩, htk⟩ => ?_) (fun σ' H' a3 ⟨⟨y, e⟩, htk⟩ => ?_)
    · subst e
      show tIfS _ _ _ _ [some v, some v2, some vl, some vr, some (.int (min s.2 t.2)), some (.int (i : Int)), none] H'
      have s1 : SeqAt.shaped (.tuple (cutD (s.1.map encP) (some (i : Int)) (some ((i : Int) + 1)))) = true := by rw [cut_enc]; exact sh_encB.ok
      have s2 : SeqAt.shaped (.tuple (cutD (t.1.map encP) (some (i : Int)) (some ((i : Int) + 1)))) = true := by rw [cut_enc]; exact sh_encB.ok
      have ri : Dp K G1 (.int (i : Int)) (.int (i : Int)) := .int _
      have rm : Dp K G1 (.int (min s.2 t.2)) (.int (min s.2 t.2)) := .int _
      have eb : (!PyData.eqv (.tuple (cutD (s.1.map encP) (some (i : Int)) (some ((i : Int) + 1)))) (.tuple (cutD (t.1.map encP) (some (i : Int)) (some ((i : Int) + 1))))) = !decide ((s.1.drop i).take 1 = (t.1.drop i).take 1) := by
        rw [cut_enc, cut_enc, eqv_tup, eqva_encB]
      refine z_if0 a3 (EvB.is (by walk_at "eb0") eb) (fun hb H3 a4 => ?_) (fun hb H3 a4 => ?_)
      · have hne : (s.1.drop i).take 1 ≠ (t.1.drop i).take 1 := by simpa using hb
        obtain ⟨m, e1, e2, e3⟩ := limits_at htk hne
        obtain ⟨m1, m2⟩ := min_cons (x := min s.2 t.2) e2 e3
        have esh : min (min s.2 t.2) m = sharedIn s t := by
          unfold sharedIn
          rw [e1]
          rfl
        rw [esh] at m1 m2
        have hb2 : beginAt s.1 i ++ beginAt t.1 i = (((s.1.drop i).take 1) ++ ((t.1.drop i).take 1)).map (fun p => p.2) := by
          rw [drop_one, drop_one]
          unfold beginAt
          cases s.1[i]? <;> cases t.1[i]? <;> rfl
        have hsum : (cutD (s.1.map encP) (some (i : Int)) (some ((i : Int) + 1)) ++ cutD (t.1.map encP) (some (i : Int)) (some ((i : Int) + 1))) = (((s.1.drop i).take 1) ++ ((t.1.drop i).take 1)).map encP := by
          rw [cut_enc, cut_enc, List.map_append]
        have hcl : (cutD (s.1.map encP) (some (i : Int)) (some ((i : Int) + 1))).length + (cutD (t.1.map encP) (some (i : Int)) (some ((i : Int) + 1))).length ≤ 100000 := by
          rw [cut_enc, cut_enc, List.length_map, List.length_map, List.length_take, List.length_take]
          omega
        have hz : ((cutD (s.1.map encP) (some (i : Int)) (some ((i : Int) + 1)) ++ cutD (t.1.map encP) (some (i : Int)) (some ((i : Int) + 1))).filter fun _ => true).map sndD = (beginAt s.1 i ++ beginAt t.1 i).map .int := by
          rw [List.filter_eq_self.mpr (fun _ _ => rfl), hsum, hb2, List.map_map, List.map_map]
          rfl
        have hr : ∀ G, RCD K (rMin K) G [.list ([.int (min s.2 t.2)] ++ ((cutD (s.1.map encP) (some (i : Int)) (some ((i : Int) + 1)) ++ cutD (t.1.map encP) (some (i : Int)) (some ((i : Int) + 1))).filter fun _ => true).map sndD)] (.int (sharedIn s t)) := by
          intro G
          rw [hz]
          exact rc_min (ns := min s.2 t.2 :: (beginAt s.1 i ++ beginAt t.1 i)) m1 m2
        have hlz : (((cutD (s.1.map encP) (some (i : Int)) (some ((i : Int) + 1)) ++ cutD (t.1.map encP) (some (i : Int)) (some ((i : Int) + 1))).filter fun _ => true).map sndD).length ≤ 1000 := by
          rw [hz, hb2, List.length_map, List.length_map, List.length_append, List.length_take, List.length_take]
          omega
        refine y_asgI (K := K) (n := sharedIn s t) a4 (ed_cb (eda_cons (ed_op (ed_lst (eda_cons (ed_var rfl rm) eda_nil) (by simp)) (ed_lc (fun _ => true) sndD (ed_op (by walk_at "ed0") (by walk_at "ed0") (rg_catT hcl)) (.inr rfl) ?_ ?_) (rg_catL ?_)) eda_nil) (hr _)) fun H4 a5 => ?_
        · rw [hsum, List.length_map, List.length_append, List.length_take, List.length_take]
          omega
        · intro d hd
          rw [hsum] at hd
          obtain ⟨z, _, rfl⟩ := List.mem_map.mp hd
          exact lct_name (fun _ => rfl) fun x H1 e1 rx => by
            unfold encP at rx
            exact ⟨eb_yes, fun _ => by walk_at "ed"⟩
        · rw [List.length_singleton]
          omega
        · exact x_ret a5 (fin _ _ a5 ⟨_, _, rfl⟩) q
      · have he : (s.1.drop i).take 1 = (t.1.drop i).take 1 := by simpa using hb
        exact ⟨a4, ⟨_, rfl⟩, take_next htk he⟩
    · subst e
      have e : s.1 = t.1 := take_full htk (by rw [List.length_map, List.length_map]; omega) (by rw [List.length_map, List.length_map]; omega)
      have es : min s.2 t.2 = sharedIn s t := by
        unfold sharedIn
        rw [e, limits_self]
        rfl
      rw [es]
      exact x_ret a3 (fin _ _ a3 ⟨_, _, rfl⟩) q
end
end K95
end
section
set_option Elab.async false
set_option linter.all false
set_option maxRecDepth 100000
set_option maxHeartbeats 4000000
/-! The walk: two stands judged by the law. -/
namespace K95
open PySem PySem.Spec PyProof.Rows L2 Evl DL
/-! ### the reading by data, step by step: local words -/
local macro_rules | `(tactic| walk_at "fact") => `(tactic| first | assumption | rfl | exact sh_int.ok | exact sh_bl.ok | omega | decide | (simp; done) | (simp; omega))
local macro_rules | `(tactic| walk_at "callR") => `(tactic| first | exact ⟨_, rfl, rfl⟩ | exact ⟨_, _, rfl, rfl⟩ | exact ⟨_, rfl, by walk_at "fact", rfl⟩ | exact ⟨_, _, rfl, by walk_at "fact", rfl⟩ | exact ⟨_, _, _, rfl, rfl⟩)
local macro_rules | `(tactic| walk_at "callX") => `(tactic| first | exact .inr ⟨_, _, rfl, by walk_at "fact", rfl⟩ | exact .inr (.inr ⟨_, _, rfl, by walk_at "fact", rfl⟩))
local macro_rules | `(tactic| walk_at "rd") => `(tactic| first
  | with_reducible exact rg_add | with_reducible exact rd_sub | with_reducible exact rd_lt | with_reducible exact rd_le | with_reducible exact rg_gt | with_reducible exact rg_gtT | with_reducible exact rd_ge
  | exact rd_ixT (by walk_at "fact") | exact rd_ixL (by walk_at "fact")
  | exact rg_catT (by walk_at "fact") | exact rg_catL (by walk_at "fact") | exact rg_catS (by walk_at "fact")
  | exact rd_eq (by walk_at "fact") (by walk_at "fact") | exact rd_ne (by walk_at "fact") (by walk_at "fact")
  | exact rd_isB | exact rd_notB | exact rd_inS | exact rd_ninS
  | exact rd_mod (by walk_at "fact") | exact rd_fdivW (by walk_at "fact") | exact rg_mul (by walk_at "fact") | exact rd_pow (by walk_at "fact"))
local macro_rules | `(tactic| walk_at "rc") => `(tactic| first
  | with_reducible exact rc_lenT | with_reducible exact rc_lenL | with_reducible exact rc_tupleL | with_reducible exact rc_listT | with_reducible exact rc_listL | with_reducible exact rc_max2 | with_reducible exact rc_min2 | with_reducible exact rc_abs | with_reducible exact rc_int | with_reducible exact rc_intB | with_reducible exact rc_reprB)
local macro_rules | `(tactic| walk_at "eda") => `(tactic| first
  | with_reducible exact eda_nil
  | ((with_reducible refine' eda_cons ?k1 ?k2); (case k1 => walk_at "ed0"); (case k2 => walk_at "eda"))
  | ((with_reducible refine' eda_starL ?k1 ?k2); (case k1 => walk_at "ed0"); (case k2 => walk_at "eda"))
  | ((with_reducible refine' eda_starT ?k1 ?k2); (case k1 => walk_at "ed0"); (case k2 => walk_at "eda")))
local macro_rules | `(tactic| walk_at "ed0") => `(tactic| first
  | with_reducible exact ed_int | with_reducible exact ed_str | with_reducible exact ed_bl | with_reducible exact ed_non
  | ((with_reducible refine' ed_var ?k1 ?k2); (case k1 => rfl); (case k2 => assumption))
  | ((with_reducible refine' ed_isi ?k1 ?k2); (case k1 => walk_at "ed0"); (case k2 => first | exact kit_int _ | exact kit_bool _ | exact kit_tup _ | exact kit_str _))
  | ((with_reducible refine' ed_op ?k1 ?k2 ?k3); (case k1 => walk_at "ed0"); (case k2 => walk_at "ed0"); (case k3 => walk_at "rd"))
  | ((with_reducible refine' ed_neg ?k1); (case k1 => walk_at "ed0"))
  | ((with_reducible refine' ed_cb ?k1 ?k2); (case k1 => walk_at "eda"); (case k2 => walk_at "rc"))
  | ((with_reducible refine' ed_call ?k1 ?k2); (case k1 => walk_at "eda"); (case k2 => walk_at "callR"))
  | ((with_reducible refine' ed_callX ?k1 ?k2); (case k1 => walk_at "eda"); (case k2 => walk_at "callX"))
  | ((with_reducible refine' ed_tup ?k1 ?k2); (case k1 => walk_at "eda"); (case k2 => walk_at "fact"))
  | ((with_reducible refine' ed_lst ?k1 ?k2); (case k1 => walk_at "eda"); (case k2 => walk_at "fact"))
  | ((with_reducible refine' ed_slT ?k1 ?k2 ?k3); (case k1 => walk_at "ed0"); (case k2 => walk_at "eo"); (case k3 => walk_at "eo"))
  | ((with_reducible refine' ed_slL ?k1 ?k2 ?k3); (case k1 => walk_at "ed0"); (case k2 => walk_at "eo"); (case k3 => walk_at "eo"))
  | ((with_reducible refine' ed_and ?k1 (fun _ => ?k2)); (case k1 => walk_at "ed0"); (case k2 => walk_at "ed0"))
  | ((with_reducible refine' ed_or ?k1 (fun _ => ?k2)); (case k1 => walk_at "ed0"); (case k2 => walk_at "ed0"))
  | ((with_reducible refine' ed_not ?k1); (case k1 => walk_at "ed0"))
  | ((with_reducible refine' ed_chain ?k1 ?k2 ?k3 (fun _ => ?k4) (fun _ => ?k5)); (case k1 => walk_at "ed0"); (case k2 => walk_at "ed0"); (case k3 => walk_at "rd"); (case k4 => walk_at "ed0"); (case k5 => walk_at "rd"))
  | ((with_reducible refine' ed_ifv ?k1 (fun _ => ?k2) (fun _ => ?k3)); (case k1 => walk_at "eb0"); (case k2 => walk_at "ed0"); (case k3 => walk_at "ed0"))
  | ((with_reducible refine' ed_listZip ?k1); (case k1 => walk_at "eda")))
local macro_rules | `(tactic| walk_at "eo") => `(tactic| first
  | with_reducible exact eo_no
  | ((with_reducible refine' eo_part ?k1); (case k1 => walk_at "ed0")))
local macro_rules | `(tactic| walk_at "eb0") => `(tactic| first
  | ((with_reducible refine' eb_and ?k1 (fun _ => ?k2)); (case k1 => walk_at "eb0"); (case k2 => walk_at "eb0"))
  | ((with_reducible refine' eb_or ?k1 (fun _ => ?k2)); (case k1 => walk_at "eb0"); (case k2 => walk_at "eb0"))
  | ((with_reducible refine' eb_not ?k1); (case k1 => walk_at "eb0"))
  | ((with_reducible refine' et_tst ?k1); (case k1 => walk_at "ed0"))
  | ((with_reducible refine' et_Bv ?k1); (case k1 => walk_at "ed0")))
local macro_rules | `(tactic| walk_at "ed") => `(tactic| (refine' EvD.is ?k1 ?k2; (case k1 => walk_at "ed0"); (case k2 => first | rfl | (simp; done))))
local macro_rules | `(tactic| walk_at "eb") => `(tactic| (refine' EvB.is ?k1 ?k2; (case k1 => walk_at "eb0"); (case k2 => first | rfl | (simp; done))))
local macro_rules | `(tactic| walk_at "len") => `(tactic| (intro ds d h; first | (obtain ⟨a, e, _⟩ := h; rw [e]; rfl; done) | (obtain ⟨a, b, e, _⟩ := h; (rw [e]; rfl); done)))
theorem judgeW_ok (s t : Br × Int) : (PyData.str (judgeW s t)).canLay0 = true := by
  unfold judgeW
  split
  · decide +kernel
  · split
    · decide +kernel
    · split <;> decide +kernel
theorem judgeW_b {s t : Br × Int} {b1 b2 : Bool} (h1 : decide (s.2 = sharedIn s t) = b1) (h2 : decide (t.2 = sharedIn s t) = b2) : judgeW s t = if b1 && b2 then ("alike" : Str) else if b1 then "behind" else if b2 then "ahead" else "parted" := by
  subst h1 h2
  unfold judgeW
  by_cases e1 : s.2 = sharedIn s t
  · by_cases e2 : t.2 = sharedIn s t
    · simp [e1, e2]
    · simp [e1, e2]
  · by_cases e2 : t.2 = sharedIn s t
    · simp [e1, e2]
    · simp [e1, e2]
theorem eqv_encS_self (s : Br × Int) : PyData.eqv (encS s) (encS s) = true := by
  rw [eqv_tup, eqva_cons, eqva_cons, eqva_nil, eqv_tup, eqva_encB, eqv_int]
  simp
theorem judge_in {x : Str} (h : x = "alike" ∨ x = "behind") : (!([("alike" : Str), "behind"].contains x)) = false := by
  rcases h with rfl | rfl <;> simp
section
variable {P : Program} {w : World} {K : PySem.W.Frag} {mg : Str → Option Value} {base : Heap} {f : Addr} {fd : FuncData} (B : Bi mg) {C CN : Addr}
variable (c__law_shared : Cal P w K mg base "_law_shared" 2 ["one", "other"] (spG K fun ds d => ∃ s t : Br × Int, ds = [encS s, encS t] ∧ ((BrOk s.1 ∧ 0 ≤ s.2 ∧ s.2 ≤ 1000) ∧ (BrOk t.1 ∧ 0 ≤ t.2 ∧ t.2 ≤ 1000)) ∧ d = .int (sharedIn s t)))
variable (c_shared_place : Cal P w K mg base "shared_place" 7 ["one", "other"] (spX K fun ds o => (∃ a b, ds = [a, b] ∧ ¬ (isStand a = true ∧ isStand b = true) ∧ o = .err (.ref C)) ∨ (∃ s t, ds = [encS s, encS t] ∧ (StOk s ∧ StOk t) ∧ o = .ok (.int (sharedIn s t)))))
variable (c_judged : Cal P w K mg base "judged" 7 ["one", "other"] (spX K fun ds o => (∃ a b, ds = [a, b] ∧ ¬ (isStand a = true ∧ isStand b = true) ∧ o = .err (.ref C)) ∨ (∃ s t, ds = [encS s, encS t] ∧ (StOk s ∧ StOk t) ∧ o = .ok (.tuple [.str (judgeW s t), .int (sharedIn s t)]))))
variable (c_is_later : Cal P w K mg base "is_later" 7 ["one", "other"] (spX K fun ds o => (∃ a b, ds = [a, b] ∧ ¬ (isStand a = true ∧ isStand b = true) ∧ o = .err (.ref C)) ∨ (∃ s t, ds = [encS s, encS t] ∧ (StOk s ∧ StOk t) ∧ o = .ok (.bool (laterS s t)))))
variable (c_cut : Cal P w K mg base "cut" 6 ["stand", "place"] (spX K fun ds o => (∃ a p, ds = [a, p] ∧ isStand a = false ∧ o = .err (.ref C)) ∨ (∃ s p, ds = [encS s, p] ∧ (StOk s ∧ isWithin p 0 s.2 = false) ∧ o = .errV (.ref CN) "value" p) ∨ (∃ s i, ds = [encS s, .int i] ∧ (StOk s ∧ 0 ≤ i ∧ i ≤ s.2) ∧ o = .ok (encS (upTo s.1 i, i)))))
variable (c_is_stand : Cal P w K mg base "is_stand" 4 ["value"] (spG K fun ds d => ∃ a, ds = [a] ∧ d = .bool (isStand a)))
include B c__law_shared c_shared_place c_judged c_is_later c_cut c_is_stand
theorem cal__law_two_right (F : FnP K "_law_two_right" s__law_two_right f fd) (hm : mg "_law_two_right" = some (.ref f)) : Cal P w K mg base "_law_two_right" 8 ["one", "other"] (spG K (fun ds d => ∃ s t : Br × Int, ds = [encS s, encS t] ∧ (Dr s ∧ Dr t) ∧ d = .bool true)) :=
  cal_D F hm sc__law_two_right (F.bindsN fun _ _ _ _ _ _ us hl => match us, hl with | [_, _], _ => rfl) (by walk_at "len") fun cdv A outer s H vs Q E hr => by
    have nd := sc__law_two_right.nd
    have hu64 := hr.units
    have hu := hr.units0
    refine ⟨_, PSs.nox (pss_cons (ps_set (i := 2) nd rfl (by first | exact Or.inl rfl | exact Or.inr rfl) (pe_callC c__law_shared hr (by rfl) passL (pa_cons (pv 0) (pa_cons (pv 1) pa_nil)))) (pss_cons (ps_set (i := 3) nd rfl (by first | exact Or.inl rfl | exact Or.inr rfl) (pe_lst (pa_cons (pe_cmpR (r := rEqD K) (op_eqD hu64) (pe_ix (r := rIx K) ix_seq (pv 0) pe_int (fun _ _ => rfl)) (pv 2) (nomark _)) (pa_cons (pe_cmpR (r := rEqD K) (op_eqD hu64) (pe_ix (r := rIx K) ix_seq (pv 1) pe_int (fun _ _ => rfl)) (pv 2) (nomark _)) pa_nil)))) (pss_cons (ps_set (i := 4) nd rfl (by first | exact Or.inl rfl | exact Or.inr rfl) pe_str) (pss_cons (ps_if (pw_or (pt_val (pe_ix (r := rIx K) ix_seq (pv 3) pe_int (fun _ _ => rfl))) (pw_or1 (pt_val (pe_ix (r := rIx K) ix_seq (pv 3) pe_int (fun _ _ => rfl))))).pt (pss_one (ps_set (i := 4) nd rfl (by first | exact Or.inl rfl | exact Or.inr rfl) (pe_ifExp (pt_cmpR (r := rEqD K) (op_eqD hu64) (pv 3) (pe_lst (pa_cons pe_bl (pa_cons pe_bl pa_nil))) (nomark _)) pe_str (pe_ifExp (pt_val (pe_ix (r := rIx K) ix_seq (pv 3) pe_int (fun _ _ => rfl))) pe_str pe_str)))) pss_nil) (pss_cons (ps_if (pw_or (pt_cmpR (r := rNeD K) (op_neD hu64) (pe_callC c_shared_place hr (by rfl) passL (pa_cons (pv 0) (pa_cons (pv 1) pa_nil))) (pv 2) (nomark _)) (pw_or1 (pt_cmpR (r := rNeD K) (op_neD hu64) (pe_callC c_judged hr (by rfl) passL (pa_cons (pv 0) (pa_cons (pv 1) pa_nil))) (pe_tup (pa_cons (pv 4) (pa_cons (pv 2) pa_nil))) (nomark _)))).pt (pss_one (ps_ret pe_bl)) pss_nil) (pss_cons (ps_set (i := 5) nd rfl (by first | exact Or.inl rfl | exact Or.inr rfl) (pe_cmpR (r := rGtG K) (op_gtG hu) (pe_tup (pa_cons (pe_ix (r := rIx K) ix_seq (pe_ix (r := rIx K) ix_seq (pe_ix (r := rIx K) ix_seq (pv 0) pe_int (fun _ _ => rfl)) (pe_un un_neg pe_int) (fun _ _ => rfl)) pe_int (fun _ _ => rfl)) (pa_cons (pe_ix (r := rIx K) ix_seq (pv 0) pe_int (fun _ _ => rfl)) pa_nil))) (pe_tup (pa_cons (pe_ix (r := rIx K) ix_seq (pe_ix (r := rIx K) ix_seq (pe_ix (r := rIx K) ix_seq (pv 1) pe_int (fun _ _ => rfl)) (pe_un un_neg pe_int) (fun _ _ => rfl)) pe_int (fun _ _ => rfl)) (pa_cons (pe_ix (r := rIx K) ix_seq (pv 1) pe_int (fun _ _ => rfl)) pa_nil))) (nomark _))) (pss_cons (ps_if (pw_or (pt_cmpR (r := rNeD K) (op_neD hu64) (pe_callB call_repr (by rfl) B.repr (by decide +kernel) (pa_cons (pe_callC c_is_later hr (by rfl) passL (pa_cons (pv 0) (pa_cons (pv 1) pa_nil))) pa_nil)) (pe_callB call_repr (by rfl) B.repr (by decide +kernel) (pa_cons (pv 5) pa_nil)) (nomark _)) (pw_or1 (pw_and (pt_val (pv 5)) (pw_and1 (pt_val (pe_callC c_is_later hr (by rfl) passL (pa_cons (pv 1) (pa_cons (pv 0) pa_nil)))))).pt)).pt (pss_one (ps_ret pe_bl)) pss_nil) (pss_cons (ps_for PassesOwn.never rfl (pi_range1 (by rfl) B.range (pa_cons (pe_op (r := rAddG K) op_addG (pe_callB (call_min2' rfl) (by rfl) B.min (by decide +kernel) (pa_cons (pe_ix (r := rIx K) ix_seq (pv 0) pe_int (fun _ _ => rfl)) (pa_cons (pe_ix (r := rIx K) ix_seq (pv 1) pe_int (fun _ _ => rfl)) pa_nil))) pe_int) pa_nil)) (pg_name (i := 6) nd rfl (by first | exact Or.inl rfl | exact Or.inr rfl)) (pss_cons (ps_par (i := 7) (j := 8) rfl nd rfl rfl (by decide) rfl rfl (pa_cons (pe_callC c_cut hr (by rfl) passL (pa_cons (pv 0) (pa_cons (pv 6) pa_nil))) (pa_cons (pe_callC c_cut hr (by rfl) passL (pa_cons (pv 1) (pa_cons (pv 6) pa_nil))) pa_nil)) (by rfl)) (pss_cons (ps_if (pw_or (pt_cmpR (r := rNeD K) (op_neD hu64) (pv 7) (pe_tup (pa_cons (pe_callTy (r := rTupleS K) call_tupleS (by rfl) B.tuple (by decide +kernel) (pa_cons (pe_lc (own := [("pair", 9)]) (g := gName 9) rfl nd (pi_seqK (K := K) rfl (pe_ix (r := rIx K) ix_seq (pv 0) pe_int (fun _ _ => rfl))) (blkOk_by (N := N__law_two_right) (sc := defScope s__law_two_right) (by decide +kernel)) (fun _ _ _ _ _ => pg_name (i := 9) nd rfl (by first | exact Or.inl rfl | exact Or.inr rfl)) (fun _ _ _ _ _ => (pts_one (pt_cmpR op_leG (pe_ix (r := rIx K) ix_seq (pv 9) pe_int (fun _ _ => rfl)) (pv 6) (nomark _)))) (fun _ _ _ _ _ => (pv 9))) pa_nil)) (pa_cons (pv 6) pa_nil))) (nomark _)) (pw_or1 (pt_cmpR op_notBl (pe_callC c_is_stand hr (by rfl) passL (pa_cons (pv 7) pa_nil)) pe_bl (nomark _)))).pt (pss_one (ps_ret pe_bl)) pss_nil) (pss_cons (ps_if (pt_cmpR (r := rNeD K) (op_neD hu64) (pe_cmpR (r := rEqD K) (op_eqD hu64) (pe_callC c_shared_place hr (by rfl) passL (pa_cons (pv 7) (pa_cons (pv 8) pa_nil))) (pv 6) (nomark _)) (pe_cmpR op_leG (pv 6) (pv 2) (nomark _)) (nomark _)) (pss_one (ps_ret pe_bl)) pss_nil) (pss_one (ps_if (pw_or (pt_cmpR (r := rNeD K) (op_neD hu64) (pe_callC c_shared_place hr (by rfl) passL (pa_cons (pv 7) (pa_cons (pv 0) pa_nil))) (pv 6) (nomark _)) (pw_or1 (pt_cmpR (r := rIn K true) op_notIn_seq (pe_ix (r := rIx K) ix_seq (pe_callC c_judged hr (by rfl) passL (pa_cons (pv 7) (pa_cons (pv 0) pa_nil))) pe_int (fun _ _ => rfl)) (pe_tup (pa_cons pe_str (pa_cons pe_str pa_nil))) (by with_unfolding_all rfl)))).pt (pss_one (ps_ret pe_bl)) pss_nil)))))) (pss_one (ps_ret pe_bl)))))))))), ?_⟩
    rintro M ds0 d hM r ⟨s, t, rfl, ⟨hs, ht⟩, rfl⟩ q
    obtain ⟨v, v2, rfl, ra, rb⟩ := dpa2 r
    have hst : StOk s ∧ StOk t := ⟨hs.ok, ht.ok⟩
    have hts : StOk t ∧ StOk s := ⟨ht.ok, hs.ok⟩
    have hsm := hs.small
    have htm := ht.small
    have hbr : (BrOk s.1 ∧ 0 ≤ s.2 ∧ s.2 ≤ 1000) ∧ (BrOk t.1 ∧ 0 ≤ t.2 ∧ t.2 ≤ 1000) := ⟨⟨hs.ok.br, by omega, by omega⟩, ⟨ht.ok.br, by omega, by omega⟩⟩
    refine y_asgI (K := K) (n := sharedIn s t) (.start hM) (by walk_at "ed") fun H1 a1 => ?_
    have rsh : Dp K (hid M H) (.int (sharedIn s t)) (.int (sharedIn s t)) := .int _
    have f1 : SeqAt.shaped (.int s.2) = true := sh_int.ok
    have f2 : SeqAt.shaped (.int t.2) = true := sh_int.ok
    have f3 : SeqAt.shaped (.int (sharedIn s t)) = true := sh_int.ok
    show tSeq _ _ _ [some v, some v2, some (.int (sharedIn s t)), none, none, none, none, none, none, none] H1
    obtain ⟨b1, h1⟩ : ∃ b, decide (s.2 = sharedIn s t) = b := ⟨_, rfl⟩
    obtain ⟨b2, h2⟩ : ∃ b, decide (t.2 = sharedIn s t) = b := ⟨_, rfl⟩
    have hj := judgeW_b h1 h2
    refine y_asg (d := .list [.bool b1, .bool b2]) a1 (EvD.is (by walk_at "ed0") (by rw [eqv_int, eqv_int, h1, h2])) fun ve H2 a2 eG re => ?_
    replace ra := Dpx eG ra
    replace rb := Dpx eG rb
    generalize hid M H2 = G at a2 ra rb re
    have rsh : Dp K G (.int (sharedIn s t)) (.int (sharedIn s t)) := .int _
    show tSeq _ _ _ [some v, some v2, some (.int (sharedIn s t)), some ve, none, none, none, none, none, none] H2
    refine y_asgS (K := K) (n := "parted") a2 (by walk_at "ed") fun H3 a3 => ?_
    show tSeq _ _ _ [some v, some v2, some (.int (sharedIn s t)), some ve, some (.str "parted"), none, none, none, none, none] H3
    refine y_ifRest (α := { c : Str // c = judgeW s t }) (fun c => [some v, some v2, some (.int (sharedIn s t)), some ve, some (.str c.1), none, none, none, none, none]) a3 (b := b1 || b2) (by walk_at "eb") (fun hb => ⟨⟨"parted", by rw [hj]; cases b1 <;> cases b2 <;> first | rfl | (cases hb; done)⟩, rfl⟩) (fun c H4 a4 => ?_) (fun hb H4 a4 rest => ?_)
    · obtain ⟨c, rfl⟩ := c
      show tSeq _ _ _ [some v, some v2, some (.int (sharedIn s t)), some ve, some (.str (judgeW s t)), none, none, none, none, none] H4
      have rw_ : Dp K G (.str (judgeW s t)) (.str (judgeW s t)) := .str _
      have f4 : SeqAt.shaped (.tuple [.str (judgeW s t), .int (sharedIn s t)]) = true := (sh_tup (sh_cons (sh_str (judgeW_ok s t)) (sh_cons sh_int sh_nil))).ok
      refine y_if0 (K := K) (b := false) a4 (EvB.is (by walk_at "eb0") ?_) (fun z => by cases z) (fun _ H5 a5 => ?_)
      · rw [eqv_int, eqv_tup, eqva_cons, eqva_cons, eqva_nil, eqv_str, eqv_int]
        simp
      obtain ⟨c1, l1, e1, g1⟩ := last_ex hs.ok.br.pos
      obtain ⟨c2, l2, e2', g2⟩ := last_ex ht.ok.br.pos
      have i1 : atI (s.1.map encP) (-1) = some (encP l1) := by
        rw [e1, List.map_append]
        exact atI_last
      have i2 : atI (t.1.map encP) (-1) = some (encP l2) := by
        rw [e2', List.map_append]
        exact atI_last
      refine y_asgB (K := K) (n := laterS s t) a5 (EvD.is (by walk_at "ed0") ?_) fun H6 a6 => ?_
      · unfold laterS
        rw [g1, g2]
      show tSeq _ _ _ [some v, some v2, some (.int (sharedIn s t)), some ve, some (.str (judgeW s t)), some (.bl (laterS s t)), none, none, none, none] H6
      have rlt : Dp K G (.bl (laterS s t)) (.bool (laterS s t)) := .bl _
      have f5 : SeqAt.shaped (.str (if laterS s t = true then ("True" : Str) else "False")) = true := by
        cases laterS s t <;> exact (sh_str (by decide +kernel)).ok
      refine y_if0 (K := K) (b := false) a6 (EvB.is (by walk_at "eb0") ?_) (fun z => by cases z) (fun _ H7 a7 => ?_)
      · rw [eqv_str]
        cases hl : laterS s t with
        | false => simp
        | true => rw [later_asym s t hl]; simp
      refine y_forR (K := K) (n := min s.2 t.2 + 1) a7 (by walk_at "eda") (by omega) (fun i σ' H' => ∃ x y z u, σ' = [some v, some v2, some (.int (sharedIn s t)), some ve, some (.str (judgeW s t)), some (.bl (laterS s t)), x, y, z, u]) (fun H1 a1 => ⟨_, _, _, _, rfl⟩) (fun i σ' H' hi a8 ⟨x, y, z, u, e⟩ => ?_) (fun σ' H' a8 ⟨x, y, z, u, e⟩ => ?_)
      · subst e
        show tSeq _ _ _ [some v, some v2, some (.int (sharedIn s t)), some ve, some (.str (judgeW s t)), some (.bl (laterS s t)), some (.int (i : Int)), y, z, u] H'
        have ri : Dp K G (.int (i : Int)) (.int (i : Int)) := .int _
        have hcs : StOk s ∧ 0 ≤ (i : Int) ∧ (i : Int) ≤ s.2 := ⟨hs.ok, by omega, by omega⟩
        have hct : StOk t ∧ 0 ≤ (i : Int) ∧ (i : Int) ≤ t.2 := ⟨ht.ok, by omega, by omega⟩
        refine y_par (d1 := encS (upTo s.1 i, i)) (d2 := encS (upTo t.1 i, i)) a8 (by walk_at "eda") fun w1 w2 H8 a9 eG2 r1 r2 => ?_
        replace ra := Dpx eG2 ra
        replace rb := Dpx eG2 rb
        generalize hid M H8 = G2 at a9 ra rb r1 r2 eG2
        have ri : Dp K G2 (.int (i : Int)) (.int (i : Int)) := .int _
        have rsh : Dp K G2 (.int (sharedIn s t)) (.int (sharedIn s t)) := .int _
        show tSeq _ _ _ [some v, some v2, some (.int (sharedIn s t)), some ve, some (.str (judgeW s t)), some (.bl (laterS s t)), some (.int (i : Int)), some w1, some w2, u] H8
        have k1 : StOk (upTo s.1 i, (i : Int)) := stOk_up hs.ok (by omega) (by omega)
        have k2 : StOk (upTo t.1 i, (i : Int)) := stOk_up ht.ok (by omega) (by omega)
        have k12 : StOk (upTo s.1 i, (i : Int)) ∧ StOk (upTo t.1 i, (i : Int)) := ⟨k1, k2⟩
        have k1s : StOk (upTo s.1 i, (i : Int)) ∧ StOk s := ⟨k1, hs.ok⟩
        let F : PyData → Bool := fun d => match d with | .tuple [_, .int y] => decide (y ≤ (i : Int)) | _ => false
        have hf : ((s.1.map encP).filter F).map (fun d => d) = (upTo s.1 i).map encP := by
          rw [List.map_id', List.filter_map]
          rfl
        have lb := hs.ok.br.len
        have q1 : SeqAt.shaped (encS (upTo s.1 i, (i : Int))) = true := sh_encS.ok
        refine y_if0 (K := K) (b := false) a9 (EvB.is (eb_or (et_tst (ed_op (ed_var rfl r1) (ed_tup (eda_cons (ed_cb (eda_cons (EvD.is (ed_lc F (fun d => d) (by walk_at "ed0") (.inr rfl) ?_ ?_) (congrArg PyData.list hf)) eda_nil) rc_tupleL) (by walk_at "eda")) (by simp)) (rd_ne q1 q1))) (fun _ => by walk_at "eb0")) ?_) (fun z => by cases z) (fun _ H9 b1 => ?_)
        · rw [List.length_map]
          omega
        · intro d hd
          obtain ⟨z, _, rfl⟩ := List.mem_map.mp hd
          exact lct_name (fun _ => rfl) fun x H1 e1 rx => by
            replace ri := Dpx e1 ri
            unfold encP at rx
            exact ⟨by walk_at "eb", fun _ => ed_var rfl rx⟩
        · rw [eqv_encS_self, isStand_iff.mpr ⟨_, rfl, k1⟩]
          rfl
        refine y_if0 (K := K) (b := false) b1 (EvB.is (by walk_at "eb0") ?_) (fun z => by cases z) (fun _ H10 b2 => ?_)
        · rw [eqv_bool, eqv_int]
          have hc := cut_shared hs.ok ht.ok (p := (i : Int)) (by omega) (by omega)
          by_cases h : (i : Int) ≤ sharedIn s t
          · rw [decide_eq_true h, decide_eq_true (hc.mpr h)]
            rfl
          · rw [decide_eq_false h, decide_eq_false (fun z => h (hc.mp z))]
            rfl
        refine z_if0 (K := K) (b := false) b2 (EvB.is (eb_or (by walk_at "eb0") fun _ => et_tst (ed_op (by walk_at "ed0") (ed_tup (ds := [("alike" : Str), "behind"].map .str) (eda_cons ed_str (eda_cons ed_str eda_nil)) (by simp)) rd_ninS)) ?_) (fun z => by cases z) (fun _ H11 b3 => ?_)
        · rw [eqv_int, cut_own hs.ok (by omega : (i : Int) ≤ s.2), judge_in (cut_judge hs.ok (by omega : (i : Int) ≤ s.2))]
          simp
        exact ⟨⟨⟨b3.x.tk, eG2.trans b3.x.ex⟩, b3.j, b3.u⟩, _, _, _, _, rfl⟩
      · subst e
        exact x_ret a8 (by walk_at "ed") q
    · show tAsg _ _ _ [some v, some v2, some (.int (sharedIn s t)), some ve, some (.str "parted"), none, none, none, none, none] H4
      have f6 : SeqAt.shaped (.list [.bool b1, .bool b2]) = true := (sh_lst (sh_cons sh_bl (sh_cons sh_bl sh_nil))).ok
      have f7 : SeqAt.shaped (.list [.bool true, .bool true]) = true := (sh_lst (sh_cons sh_bl (sh_cons sh_bl sh_nil))).ok
      refine h_asgS (K := K) (n := judgeW s t) a4 (EvD.is (by walk_at "ed0") ?_) fun H5 a5 => rest ⟨_, rfl⟩ H5 a5
      rw [hj, eqv_lst, eqva_cons, eqva_cons, eqva_nil, eqv_bool, eqv_bool]
      cases b1 <;> cases b2 <;> first | rfl | (cases hb; done)
end
end K95
end
section
set_option Elab.async false
set_option linter.all false
set_option maxRecDepth 100000
set_option maxHeartbeats 4000000
/-! The walk: what a call met. -/
namespace K95
open PySem PySem.Spec PyProof.Rows L2 Evl DL LamX LamD
theorem pss_never {X : Cx} {st : List Stmt} : PSs X st tNever := ⟨fun _ _ _ _ _ _ h => False.elim h⟩
/-- the classes that _law_met names, and which of them are an operation's or a number's error -/
structure MetF (K : PySem.W.Frag) (mg : Str → Option Value) (C CN : Addr) (cs : List Addr) : Prop where
  g1 : mg "InvalidText" = some (.ref (cs.getD 0 0))
  g2 : mg "InvalidCommand" = some (.ref (cs.getD 1 0))
  g3 : mg "InvalidStore" = some (.ref (cs.getD 2 0))
  g4 : mg "InvalidOperation" = some (.ref C)
  g5 : mg "ParseError" = some (.ref (cs.getD 3 0))
  g6 : mg "InvalidTime" = some (.ref (cs.getD 4 0))
  g7 : mg "InvalidNumber" = some (.ref CN)
  g8 : mg "TooMany" = some (.ref (cs.getD 5 0))
  g9 : mg "UnknownName" = some (.ref (cs.getD 6 0))
  g10 : mg "BadLetters" = some (.ref (cs.getD 7 0))
  g11 : mg "PowerLost" = some (.ref (cs.getD 8 0))
  g12 : mg "Refused" = some (.ref (cs.getD 9 0))
  o1 : PySem.W.exmOne K (.ref C) (.ref (cs.getD 0 0)) = some false
  o2 : PySem.W.exmOne K (.ref C) (.ref (cs.getD 1 0)) = some false
  o3 : PySem.W.exmOne K (.ref C) (.ref (cs.getD 2 0)) = some false
  o4 : PySem.W.exmOne K (.ref C) (.ref C) = some true
  n1 : PySem.W.exmOne K (.ref CN) (.ref (cs.getD 0 0)) = some false
  n2 : PySem.W.exmOne K (.ref CN) (.ref (cs.getD 1 0)) = some false
  n3 : PySem.W.exmOne K (.ref CN) (.ref (cs.getD 2 0)) = some false
  n4 : PySem.W.exmOne K (.ref CN) (.ref C) = some false
  n5 : PySem.W.exmOne K (.ref CN) (.ref (cs.getD 3 0)) = some false
  n6 : PySem.W.exmOne K (.ref CN) (.ref (cs.getD 4 0)) = some false
  n7 : PySem.W.exmOne K (.ref CN) (.ref CN) = some true
  xf : XfC K CN
  no : PySem.W.findIn K (.ref CN) "value" = some none
/-- _law_met(a) where a raises one of the two -/
def TTmet (K : PySem.W.Frag) (C CN : Addr) : (XK → Hp → VK → Prop) → Hp → VK → Prop := fun tl H Q =>
  tl (fun cls d H' => (cls = .ref C ∧ Q (.str "operation") H') ∨ (cls = .ref CN ∧ ∃ dd v, d = some dd ∧ H' dd = some (.xd [("value", v)]) ∧ rReprT K [v] H' fun r H2 => ∃ x, r = .str x ∧ x.length ≤ 1000 ∧ Q (.str (("number " : Str) ++ x)) H2)) H fun _ H' => Q (.str "fine") H'
theorem reprT_mono {K : PySem.W.Frag} {xs : List V} {H : Hp} {Q Q' : VK} (h : rReprT K xs H Q) (hq : ∀ v H', Q v H' → Q' v H') : rReprT K xs H Q' := by
  rcases h with ((⟨e, q⟩ | ⟨b, e, q⟩ | ⟨i, e, hz, q⟩ | ⟨x, e, hz, q⟩) | ⟨a, e, ht, q⟩)
  · exact .inl (.inl ⟨e, hq _ _ q⟩)
  · exact .inl (.inr (.inl ⟨b, e, hq _ _ q⟩))
  · exact .inl (.inr (.inr (.inl ⟨i, e, hz, hq _ _ q⟩)))
  · exact .inl (.inr (.inr (.inr ⟨x, e, hz, hq _ _ q⟩)))
  · exact .inr ⟨a, e, ht, hq _ _ q⟩
theorem met_gives {X : Cx} {C CN g : Addr} {cs : List Addr} {cdg : Value} {q : Str} {k : Nat} (B : Bi X.mg) (F : MetF X.K X.mg C CN cs) (hr : Room (k + 1) X.A) (hg : X.A.guards = some []) : GivesTo X N__law_met "_law_met" (defScope s__law_met) g cdg (defBody s__law_met) "call" q (TTmet X.K C CN) := by
  intro f c' s H Q tl act hc h
  have nd := sc__law_met.nd
  have hu := (hr.deeper (envOfC "_law_met" (defScope s__law_met) s.heap.objs.size g cdg)).units
  have hgd : (X.A.deeper (envOfC "_law_met" (defScope s__law_met) s.heap.objs.size g cdg)).guards = some [] := guards_deeper hg
  refine ⟨_, pss_cons (ps_try_mix (X := (cxOf C8.CX0 X.prog X.w X.K X.mg X.base N__law_met "_law_met" (defScope s__law_met) g cdg X.A X.stack s H C8.E0).nox)
      (l := [(.ref (cs.getD 0 0), some 1, fun _ _ _ => tNever), (.ref (cs.getD 1 0), none, fun _ _ _ => tNever), (.ref (cs.getD 2 0), none, fun _ _ _ => tNever), (.ref C, none, fun _ _ _ => tRet (tC (.str "operation"))), (.ref (cs.getD 3 0), some 1, fun _ _ _ => tNever),
        (.ref (cs.getD 4 0), some 1, fun _ _ _ => tNever), (.ref CN, some 1, fun a cls d => tRet (tOp (rAddG X.K) (tC (.str "number ")) (tCB (rReprT X.K) (tCons (tXf a cls d CN "value" (tVar 1)) tNil)))), (.ref (cs.getD 5 0), some 1, fun _ _ _ => tNever),
        (.ref (cs.getD 6 0), some 1, fun _ _ _ => tNever), (.ref (cs.getD 7 0), some 1, fun _ _ _ => tNever), (.ref (cs.getD 8 0), some 1, fun _ _ _ => tNever), (.ref (cs.getD 9 0), some 1, fun _ _ _ => tNever)])
      (tb := fun W D σ H => ∃ Ech : XK, (∀ cls d σ' H', Ech cls d H' → σ'.length = 2 → W cls d σ' H') ∧ σ[0]? = some (some (.ref f)) ∧ H c' = some (CodeO c' q) ∧ tl Ech H fun _ H' => D.nx σ H')
      rfl rfl nd L2.takes0 (fun W pn xe tk _ => ⟨fun pins s' σ H' D I ⟨Ech, hW, h1, h2, h3⟩ => (pss_one (ps_expr (act (fun cls d σ' H' => σ'.length = 2 → W cls d σ' H') pn xe Ech _ _ (fun u s2 ⟨a, B, sI, pins, σ, H, cls, d, e, I, nb, up, sky, na, os, ag, w⟩ => tk u s2 ⟨a, B, sI, pins, σ, H, cls, d, e, I, nb, up, sky, na, os, ag, w I.len⟩) hW))).run pins s' σ H' D I ⟨h1, h2, h3⟩⟩)
      (.named ⟨rfl, by decide, .inl F.g1⟩ rfl rfl (fun _ _ _ _ _ _ _ => pss_never) (.one ⟨rfl, by decide, .inl F.g2⟩ (fun _ _ _ _ _ _ _ => pss_never) (.one ⟨rfl, by decide, .inl F.g3⟩ (fun _ _ _ _ _ _ _ => pss_never)
      (.one ⟨rfl, by decide, .inl F.g4⟩ (fun _ _ _ _ _ _ _ => pss_one (ps_ret pe_str)) (.named ⟨rfl, by decide, .inl F.g5⟩ rfl rfl (fun _ _ _ _ _ _ _ => pss_never) (.named ⟨rfl, by decide, .inl F.g6⟩ rfl rfl (fun _ _ _ _ _ _ _ => pss_never)
      (.named ⟨rfl, by decide, .inl F.g7⟩ rfl rfl (fun a oe cls d pn hz hf => pss_one (ps_ret (pe_op op_addG pe_str (pe_callB (call_reprT hu hgd) (by rfl) B.repr (by decide +kernel) (pa_cons (pe_xf F.xf F.no hz hf (pv 1)) pa_nil)))))
      (.named ⟨rfl, by decide, .inl F.g8⟩ rfl rfl (fun _ _ _ _ _ _ _ => pss_never) (.named ⟨rfl, by decide, .inl F.g9⟩ rfl rfl (fun _ _ _ _ _ _ _ => pss_never) (.named ⟨rfl, by decide, .inl F.g10⟩ rfl rfl (fun _ _ _ _ _ _ _ => pss_never)
      (.named ⟨rfl, by decide, .inl F.g11⟩ rfl rfl (fun _ _ _ _ _ _ _ => pss_never) (.named ⟨rfl, by decide, .inl F.g12⟩ rfl rfl (fun _ _ _ _ _ _ _ => pss_never) .nil))))))))))))) (pss_one (ps_ret pe_str)), ?_⟩
  refine ⟨_, fun cls d σ' H' he hl => ?_, rfl, hc, h⟩
  obtain ⟨x0, x1, rfl⟩ : ∃ x0 x1, σ' = [x0, x1] := by
    match σ', hl with
    | [x0, x1], _ => exact ⟨x0, x1, rfl⟩
  rcases he with ⟨rfl, q⟩ | ⟨rfl, dd, v, rfl, hd, q⟩
  · exact ⟨false, F.o1, fun z => Bool.noConfusion z, fun _ => ⟨false, F.o2, fun z => Bool.noConfusion z, fun _ => ⟨false, F.o3, fun z => Bool.noConfusion z, fun _ => ⟨true, F.o4, fun _ a _ => q, fun z => Bool.noConfusion z⟩⟩⟩⟩
  · refine ⟨false, F.n1, fun z => Bool.noConfusion z, fun _ => ⟨false, F.n2, fun z => Bool.noConfusion z, fun _ => ⟨false, F.n3, fun z => Bool.noConfusion z, fun _ => ⟨false, F.n4, fun z => Bool.noConfusion z, fun _ => ⟨false, F.n5, fun z => Bool.noConfusion z, fun _ => ⟨false, F.n6, fun z => Bool.noConfusion z, fun _ => ⟨true, F.n7, fun _ a _ => ?_, fun z => Bool.noConfusion z⟩⟩⟩⟩⟩⟩⟩
    refine ⟨_, rfl, rfl, rfl, dd, _, v, rfl, hd, by simp [List.lookup], ?_⟩
    refine reprT_mono q fun r H2 ⟨x, e, hx, q2⟩ => ?_
    subst e
    refine .inr (.inr (.inr ⟨_, x, rfl, rfl, sz_of ?_, q2⟩))
    have h7 : ("number " : Str).length ≤ 10 := by decide +kernel
    omega
end K95
end
section
set_option Elab.async false
set_option linter.all false
set_option maxRecDepth 100000
set_option maxHeartbeats 2000000
/-! Calls that hand on a lambda: the tables of code objects change; what is told stands off them. -/
namespace DL
open PySem PySem.Spec PyProof.Rows L2 Evl LamX
/-- without tables -/
def nt (H : Hp) : Hp := fun a => match H a with
  | some (.tbl _) => none
  | x => x
def NoT (G : Hp) : Prop := ∀ b ps, G b ≠ some (.tbl ps)
theorem nt_some {H : Hp} {a : Addr} {o : HO} (h : nt H a = some o) : H a = some o ∧ ∀ ps, o ≠ .tbl ps := by
  unfold nt at h
  split at h
  · cases h
  · rename_i hn
    refine ⟨h, fun ps e => ?_⟩
    subst e
    exact hn ps h
theorem nt_of {H : Hp} {a : Addr} {o : HO} (h : H a = some o) (hn : ∀ ps, o ≠ .tbl ps) : nt H a = some o := by
  unfold nt
  split
  · rename_i ps e
    rw [h] at e
    exact absurd (Option.some.inj e) (hn ps)
  · exact h
theorem nt_ex {H : Hp} : Ex (nt H) H := fun b o h => (nt_some h).1
theorem nt_no {H : Hp} : NoT (nt H) := fun b ps h => (nt_some h).2 ps rfl
section
variable {K : PySem.W.Frag} {H : Hp}
theorem nt_l {a : Addr} {xs : List V} (h : SqL K H a xs) : SqL K (nt H) a xs := by
  rcases h with (h | ⟨o, h⟩) | h
  · exact .inl (.inl (nt_of h (fun ps z => by cases z)))
  · exact .inl (.inr ⟨o, nt_of h (fun ps z => by cases z)⟩)
  · exact .inr h
theorem nt_t {a : Addr} {xs : List V} (h : SqT K H a xs) : SqT K (nt H) a xs := by
  rcases h with (h | ⟨o, h⟩) | h
  · exact .inl (.inl (nt_of h (fun ps z => by cases z)))
  · exact .inl (.inr ⟨o, nt_of h (fun ps z => by cases z)⟩)
  · exact .inr h
mutual
theorem dp_nt : ∀ (d : PyData) (v : V), Dp K H v d → Dp K (nt H) v d
  | .none, _, h => by cases h; exact .non
  | .bool b, _, h => by cases h; exact .bl b
  | .int i, _, h => by cases h; exact .int i
  | .str x, _, h => by cases h; exact .str x
  | .list ds, _, h => by
    cases h with
    | lst hs ha => exact .lst (nt_l hs) (dpa_nt ds _ ha)
  | .tuple ds, _, h => by
    cases h with
    | tup hs ha => exact .tup (nt_t hs) (dpa_nt ds _ ha)
  | .dict _, _, h => by cases h
theorem dpa_nt : ∀ (ds : List PyData) (vs : List V), DpAll K H vs ds → DpAll K (nt H) vs ds
  | [], _, h => by cases h; exact .nil
  | d :: ds, _, h => by
    cases h with
    | cons h1 h2 => exact .cons (dp_nt d _ h1) (dpa_nt ds _ h2)
end
theorem Dpn {v : V} {d : PyData} (h : Dp K H v d) : Dp K (nt H) v d := dp_nt d v h
end
/-- J tells of the tables, and stays when only they change; M has no other tables -/
structure TJ (T : List (Addr × Str)) (P : Addr) (M : Addr → Prop) (J : Hp → Prop) : Prop where
  t : ∀ H, J H → Tabs T H
  j : ∀ H H', J H → ExtN H H' → Tabs T H' → J H'
  o : ∀ H, J H → ∀ b, M b → b = P ∨ ∀ ps, H b ≠ some (.tbl ps)
  p : ∃ q, (P, q) ∈ T
section
variable {K : PySem.W.Frag} {M : Addr → Prop} {J : Hp → Prop} {G G1 H H1 : Hp} {T : List (Addr × Str)} {P : Addr}
theorem Ax.nt (a : Ax M J G H) : Ax M J (nt G) H := ⟨⟨a.x.tk, nt_ex.trans a.x.ex⟩, a.j, a.u⟩
theorem Ax.tabs (a : Ax M J G H) (hG : NoT G) (tj : TJ T P M J) (e : ExtN H H1) (t : Tabs T H1) : Ax M J G H1 := by
  refine ⟨⟨fun b hb z => ?_, fun b o h => ?_⟩, tj.j _ _ a.j e t, a.u⟩
  · rcases tj.o _ a.j b hb with rfl | hn
    · obtain ⟨q, hq⟩ := tj.p
      obtain ⟨ps, h1, _⟩ := t _ hq
      rw [h1] at z
      cases z
    · cases q : H b with
      | none => exact a.x.tk b hb q
      | some o =>
        rw [e b o q (fun ps e2 => hn ps (by rw [q, e2]))] at z
        cases z
  · have h2 := a.x.ex b o h
    have hb : ¬ M b := fun hm => by rw [hid_yes hm] at h2; cases h2
    rw [hid_no hb] at h2 ⊢
    exact e b o h2 fun ps e2 => hG b ps (by rw [h, e2])
/-- evaluates to a text, tables may change -/
def EvS (K : PySem.W.Frag) (M : Addr → Prop) (J : Hp → Prop) (te : TE) (σ : L2.St) (G : Hp) (x : Str) : Prop := ∀ H1, Ax M J G H1 → ∀ Q : VK, (∀ H2, Ax M J G H2 → Q (.str x) H2) → te σ H1 Q
variable {σ : L2.St} {ta : TA} {F : List PyData → Out → Prop} {ds : List PyData} {C CN : Addr} {te tf : TE} {x y : Str} {D : Ends} {u : TS} {i : Nat}
/-- what repr tells of these -/
def okR : PyData → Prop
  | .none => True
  | .bool _ => True
  | .int i => i.natAbs.log2 < 1920
  | .str z => (reprText z).length ≤ 100000
  | .tuple [] => True
  | _ => False
theorem rc_reprR {d : PyData} (h : okR d) : RCD K (rReprT K) H [d] (.str (reprD d)) := fun M vs H1 a r Q q => by
  cases d with
  | none => exact .inl (rc_reprN M vs H1 a r Q q)
  | bool b => exact .inl (rc_reprB M vs H1 a r Q q)
  | int i => exact .inl (rc_reprI h M vs H1 a r Q q)
  | str z => exact .inl (rc_reprS h M vs H1 a r Q q)
  | list l => exact h.elim
  | dict l => exact h.elim
  | tuple l =>
    cases l with
    | cons _ _ => exact h.elim
    | nil =>
      obtain ⟨v, rfl, r1⟩ := dpa1 r
      cases r1 with
      | tup hs ha =>
        cases ha
        exact .inr ⟨_, rfl, hst hs, q _ H1 (Ex.refl H1) (.str _)⟩
/-- _law_met(lambda: f(..)), an operation's error -/
theorem es_op (hG : NoT G) (tj : TJ T P M J) (h : EvDA K ta σ G ds) (hF : F ds (.err (.ref C))) : EvS K M J (tLam T (K95.TTmet K C CN) (fun E => tCall (spX K F) [] E ta)) σ G "operation" := fun H1 a Q q => by
  refine ⟨tj.t _ a.j, fun H2 e t => ?_⟩
  have a2 := a.tabs hG tj e t
  exact h M H2 a2.x _ fun vs H3 e3 r => ⟨M, ds, _, (a2.step e3).x.tk, by rw [List.append_nil]; exact r, hF, fun H4 e4 => .inl ⟨rfl, q H4 ((a2.step e3).step e4)⟩⟩
/-- .. a number's error -/
theorem es_num {d : PyData} (hG : NoT G) (tj : TJ T P M J) (h : EvDA K ta σ G ds) (hF : F ds (.errV (.ref CN) "value" d)) (hd : okR d) (hl : (reprD d).length ≤ 1000) : EvS K M J (tLam T (K95.TTmet K C CN) (fun E => tCall (spX K F) [] E ta)) σ G (("number " : Str) ++ reprD d) := fun H1 a Q q => by
  refine ⟨tj.t _ a.j, fun H2 e t => ?_⟩
  have a2 := a.tabs hG tj e t
  refine h M H2 a2.x _ fun vs H3 e3 r => ⟨M, ds, _, (a2.step e3).x.tk, by rw [List.append_nil]; exact r, hF, fun dd v H4 e4 hx rv => .inr ⟨rfl, dd, v, rfl, hx, ?_⟩⟩
  have a4 := (a2.step e3).step e4
  exact rc_reprR hd M [v] H4 (.self a4.x.tk) (.cons rv .nil) _ fun v' H5 e5 r5 => by
    cases r5
    exact ⟨_, rfl, hl, q H5 (a4.step e5)⟩
/-- x = [a, b], texts -/
theorem t_asg2 (a : Ax M J G H) (h1 : EvS K M J te σ G x) (h2 : EvS K M J tf σ G y) (k : ∀ v H1, Ax M J (nt (hid M H1)) H1 → Ex G (nt (hid M H1)) → Dp K (nt (hid M H1)) v (.list [.str x, .str y]) → u D (σ.set i (some v)) H1) (hG : NoT G) : tSeq (tAsg (tLst (tCons te (tCons tf tNil))) (gName i)) u D σ H :=
  h1 H a _ fun H1 a1 => h2 H1 a1 _ fun H2 a2 => ⟨by show 2 ≤ sizeLine; decide, fun p hp => by
    have a3 := a2.step (Ex.new hp (o := .lst [.str x, .str y]))
    exact k _ _ a3.here.nt (fun b o h => nt_of (a3.x.ex b o h) fun ps e => hG b ps (by rw [h, e])) (Dpn (new_lst hp (a2.x.fresh hp) (.cons (.str x) (.cons (.str y) .nil))))⟩
/-- x = x + [a, b], texts -/
theorem t_more2 {v : V} (a : Ax M J G H) (hG : NoT G) (hv : σ[i]? = some (some v)) (rv : Dp K G v (.list ds)) (hl : ds.length ≤ 1000) (h1 : EvS K M J te σ G x) (h2 : EvS K M J tf σ G y)
    (k : ∀ v H1, Ax M J (nt (hid M H1)) H1 → Ex G (nt (hid M H1)) → Dp K (nt (hid M H1)) v (.list (ds ++ [.str x, .str y])) → u D (σ.set i (some v)) H1) : tSeq (tAsg (tOp (rAddG K) (tVar i) (tLst (tCons te (tCons tf tNil)))) (gName i)) u D σ H := by
  refine ⟨v, hv, h1 H a _ fun H1 a1 => h2 H1 a1 _ fun H2 a2 => ⟨by show 2 ≤ sizeLine; decide, fun p hp => ?_⟩⟩
  have a3 := a2.step (Ex.new hp (o := .lst [.str x, .str y]))
  have r2 : Dp K (hid M (upd H2 p (.lst [.str x, .str y]))) (.ref p) (.list [.str x, .str y]) := new_lst hp (a2.x.fresh hp) (.cons (.str x) (.cons (.str y) .nil))
  refine rg_catL (H := hid M (upd H2 p (.lst [.str x, .str y]))) (by simp; omega) M v (.ref p) _ (.self a3.x.tk) (Dpx a3.x.ex rv) r2 _ fun v' H3 e3 r3 => ?_
  have a4 := a3.step e3
  exact k _ _ a4.here.nt (fun b o h => nt_of (a4.x.ex b o h) fun ps e => hG b ps (by rw [h, e])) (Dpn r3)
end
end DL
end
section
set_option Elab.async false
set_option linter.all false
set_option maxRecDepth 100000
set_option maxHeartbeats 8000000
/-! The walk: values near a stand, errors met. -/
namespace K95
open PySem PySem.Spec PyProof.Rows L2 Evl DL LamX LamD
/-! ### the reading by data, step by step: local words -/
local macro_rules | `(tactic| walk_at "fact") => `(tactic| first | assumption | rfl | exact sh_int.ok | exact sh_bl.ok | omega | decide | (simp; done) | (simp; omega))
local macro_rules | `(tactic| walk_at "callR") => `(tactic| first | exact ⟨_, rfl, rfl⟩ | exact ⟨_, _, rfl, rfl⟩ | exact ⟨_, rfl, by walk_at "fact", rfl⟩ | exact ⟨_, _, rfl, by walk_at "fact", rfl⟩ | exact ⟨_, _, _, rfl, rfl⟩)
local macro_rules | `(tactic| walk_at "callX") => `(tactic| first | exact .inr ⟨_, _, rfl, by walk_at "fact", rfl⟩ | exact .inr (.inr ⟨_, _, rfl, by walk_at "fact", rfl⟩))
local macro_rules | `(tactic| walk_at "rd") => `(tactic| first
  | with_reducible exact rg_add | with_reducible exact rd_sub | with_reducible exact rd_lt | with_reducible exact rd_le | with_reducible exact rg_gt | with_reducible exact rg_gtT | with_reducible exact rd_ge
  | exact rd_ixT (by walk_at "fact") | exact rd_ixL (by walk_at "fact")
  | exact rg_catT (by walk_at "fact") | exact rg_catL (by walk_at "fact") | exact rg_catS (by walk_at "fact")
  | exact rd_eq (by walk_at "fact") (by walk_at "fact") | exact rd_ne (by walk_at "fact") (by walk_at "fact")
  | exact rd_isB | exact rd_notB | exact rd_inS | exact rd_ninS
  | exact rd_mod (by walk_at "fact") | exact rd_fdivW (by walk_at "fact") | exact rg_mul (by walk_at "fact") | exact rd_pow (by walk_at "fact"))
local macro_rules | `(tactic| walk_at "rc") => `(tactic| first
  | with_reducible exact rc_lenT | with_reducible exact rc_lenL | with_reducible exact rc_tupleL | with_reducible exact rc_listT | with_reducible exact rc_listL | with_reducible exact rc_max2 | with_reducible exact rc_min2 | with_reducible exact rc_abs | with_reducible exact rc_int | with_reducible exact rc_intB | with_reducible exact rc_reprB | exact rc_reprR (by walk_at "fact"))
local macro_rules | `(tactic| walk_at "eda") => `(tactic| first
  | with_reducible exact eda_nil
  | ((with_reducible refine' eda_cons ?k1 ?k2); (case k1 => walk_at "ed0"); (case k2 => walk_at "eda"))
  | ((with_reducible refine' eda_starL ?k1 ?k2); (case k1 => walk_at "ed0"); (case k2 => walk_at "eda"))
  | ((with_reducible refine' eda_starT ?k1 ?k2); (case k1 => walk_at "ed0"); (case k2 => walk_at "eda")))
local macro_rules | `(tactic| walk_at "ed0") => `(tactic| first
  | with_reducible exact ed_int | with_reducible exact ed_str | with_reducible exact ed_bl | with_reducible exact ed_non
  | ((with_reducible refine' ed_var ?k1 ?k2); (case k1 => rfl); (case k2 => assumption))
  | ((with_reducible refine' ed_isi ?k1 ?k2); (case k1 => walk_at "ed0"); (case k2 => first | exact kit_int _ | exact kit_bool _ | exact kit_tup _ | exact kit_str _))
  | ((with_reducible refine' ed_repG ?k1 ?k2 ?k3); (case k1 => walk_at "eda"); (case k2 => walk_at "fact"); (case k3 => walk_at "fact"))
  | ((with_reducible refine' ed_op ?k1 ?k2 ?k3); (case k1 => walk_at "ed0"); (case k2 => walk_at "ed0"); (case k3 => walk_at "rd"))
  | ((with_reducible refine' ed_neg ?k1); (case k1 => walk_at "ed0"))
  | ((with_reducible refine' ed_cb ?k1 ?k2); (case k1 => walk_at "eda"); (case k2 => walk_at "rc"))
  | ((with_reducible refine' ed_call ?k1 ?k2); (case k1 => walk_at "eda"); (case k2 => walk_at "callR"))
  | ((with_reducible refine' ed_callX ?k1 ?k2); (case k1 => walk_at "eda"); (case k2 => walk_at "callX"))
  | ((with_reducible refine' ed_tup ?k1 ?k2); (case k1 => walk_at "eda"); (case k2 => walk_at "fact"))
  | ((with_reducible refine' ed_lst ?k1 ?k2); (case k1 => walk_at "eda"); (case k2 => walk_at "fact"))
  | ((with_reducible refine' ed_slT ?k1 ?k2 ?k3); (case k1 => walk_at "ed0"); (case k2 => walk_at "eo"); (case k3 => walk_at "eo"))
  | ((with_reducible refine' ed_slL ?k1 ?k2 ?k3); (case k1 => walk_at "ed0"); (case k2 => walk_at "eo"); (case k3 => walk_at "eo"))
  | ((with_reducible refine' ed_and ?k1 (fun _ => ?k2)); (case k1 => walk_at "ed0"); (case k2 => walk_at "ed0"))
  | ((with_reducible refine' ed_or ?k1 (fun _ => ?k2)); (case k1 => walk_at "ed0"); (case k2 => walk_at "ed0"))
  | ((with_reducible refine' ed_not ?k1); (case k1 => walk_at "ed0"))
  | ((with_reducible refine' ed_chain ?k1 ?k2 ?k3 (fun _ => ?k4) (fun _ => ?k5)); (case k1 => walk_at "ed0"); (case k2 => walk_at "ed0"); (case k3 => walk_at "rd"); (case k4 => walk_at "ed0"); (case k5 => walk_at "rd"))
  | ((with_reducible refine' ed_ifv ?k1 (fun _ => ?k2) (fun _ => ?k3)); (case k1 => walk_at "eb0"); (case k2 => walk_at "ed0"); (case k3 => walk_at "ed0"))
  | ((with_reducible refine' ed_listZip ?k1); (case k1 => walk_at "eda")))
local macro_rules | `(tactic| walk_at "eo") => `(tactic| first
  | with_reducible exact eo_no
  | ((with_reducible refine' eo_part ?k1); (case k1 => walk_at "ed0")))
local macro_rules | `(tactic| walk_at "eb0") => `(tactic| first
  | ((with_reducible refine' eb_and ?k1 (fun _ => ?k2)); (case k1 => walk_at "eb0"); (case k2 => walk_at "eb0"))
  | ((with_reducible refine' eb_or ?k1 (fun _ => ?k2)); (case k1 => walk_at "eb0"); (case k2 => walk_at "eb0"))
  | ((with_reducible refine' eb_not ?k1); (case k1 => walk_at "eb0"))
  | ((with_reducible refine' et_tst ?k1); (case k1 => walk_at "ed0"))
  | ((with_reducible refine' et_Bv ?k1); (case k1 => walk_at "ed0")))
local macro_rules | `(tactic| walk_at "ed") => `(tactic| (refine' EvD.is ?k1 ?k2; (case k1 => walk_at "ed0"); (case k2 => first | rfl | (simp; done))))
local macro_rules | `(tactic| walk_at "eb") => `(tactic| (refine' EvB.is ?k1 ?k2; (case k1 => walk_at "eb0"); (case k2 => first | rfl | (simp; done))))
abbrev lamQ : Str := ("_law_near_right" : Str) ++ ".<locals>." ++ "<lambda>"
/-- _law_near_right(dice, stand) -/
def spNR (K : PySem.W.Frag) (T : List (Addr × Str)) (P : Addr) : Sp := fun vs H Q _ => ∃ M J G p v s, vs = [.ref p, v] ∧ Ax M J G H ∧ NoT G ∧ DJ p M J ∧ TJ T P M J ∧ Dp K G v (encS s) ∧ Dr s ∧ ∀ H', Ax M J G H' → Q (.bl true) H'
theorem within_lt {i lo hi : Int} (h : i < lo) : isWithin (.int i) lo hi = false := by
  show (decide (lo ≤ i) && decide (i ≤ hi)) = false
  rw [decide_eq_false (by omega)]
  rfl
theorem within_gt {i lo hi : Int} (h : hi < i) : isWithin (.int i) lo hi = false := by
  show (decide (lo ≤ i) && decide (i ≤ hi)) = false
  rw [decide_eq_false (show ¬ i ≤ hi by omega), Bool.and_false]
theorem far_ok {p : Int} {d : PyData} (h0 : 0 ≤ p) (h1 : p ≤ 16) (h : d ∈ [.none, .int (-1), .bool true, .str "0", .int (p + 1), .tuple [], .int ((10 : Int) ^ (39 : Int).toNat)]) :
    okR d ∧ isWithin d 0 p = false ∧ (reprD d).length ≤ 1000 ∧ (PyData.str (("number " : Str) ++ reprD d)).canLay0 = true := by
  simp only [List.mem_cons, List.not_mem_nil, or_false] at h
  rcases h with rfl | rfl | rfl | rfl | rfl | rfl | rfl
  · exact ⟨trivial, rfl, by decide +kernel, by decide +kernel⟩
  · exact ⟨by show (-1 : Int).natAbs.log2 < 1920; decide +kernel, within_lt (by decide), by decide +kernel, by decide +kernel⟩
  · exact ⟨trivial, rfl, by decide +kernel, by decide +kernel⟩
  · exact ⟨by show (reprText "0").length ≤ 100000; decide +kernel, rfl, by decide +kernel, by decide +kernel⟩
  · have key : ∀ k : Fin 17, okR (.int ((k.val : Int) + 1)) ∧ (reprD (.int ((k.val : Int) + 1))).length ≤ 1000 ∧ (PyData.str (("number " : Str) ++ reprD (.int ((k.val : Int) + 1)))).canLay0 = true := by
      have key' : ∀ k : Fin 17, ((k.val : Int) + 1).natAbs.log2 < 1920 ∧ (reprD (.int ((k.val : Int) + 1))).length ≤ 1000 ∧ (PyData.str (("number " : Str) ++ reprD (.int ((k.val : Int) + 1)))).canLay0 = true := by decide +kernel
      exact key'
    have e : p = ((⟨p.toNat, by omega⟩ : Fin 17).val : Int) := by
      show p = (p.toNat : Int)
      omega
    obtain ⟨k1, k2, k3⟩ := key ⟨p.toNat, by omega⟩
    rw [← e] at k1 k2 k3
    exact ⟨k1, within_gt (by omega), k2, k3⟩
  · exact ⟨trivial, rfl, by decide +kernel, by decide +kernel⟩
  · refine ⟨by show ((10 : Int) ^ (39 : Int).toNat).natAbs.log2 < 1920; decide +kernel, ?_, by decide +kernel, by decide +kernel⟩
    exact within_gt (Int.lt_of_le_of_lt h1 (by decide +kernel))
section
variable {P : Program} {w : World} {K : PySem.W.Frag} {mg : Str → Option Value} {base : Heap} {f : Addr} {fd : FuncData} (B : Bi mg) {C CN : Addr} {cs : List Addr}
variable (c__law_one_of : Cal P w K mg base "_law_one_of" 2 ["dice", "items"] (spD K (fun ds => ∃ es, ds = [.list es] ∧ 1 ≤ es.length ∧ es.length ≤ 1000) fun ds d => ∃ es, ds = [.list es] ∧ d ∈ es))
variable (c_shared_place : Cal P w K mg base "shared_place" 7 ["one", "other"] (spX K fun ds o => (∃ a b, ds = [a, b] ∧ ¬ (isStand a = true ∧ isStand b = true) ∧ o = .err (.ref C)) ∨ (∃ s t, ds = [encS s, encS t] ∧ (StOk s ∧ StOk t) ∧ o = .ok (.int (sharedIn s t)))))
variable (c_judged : Cal P w K mg base "judged" 7 ["one", "other"] (spX K fun ds o => (∃ a b, ds = [a, b] ∧ ¬ (isStand a = true ∧ isStand b = true) ∧ o = .err (.ref C)) ∨ (∃ s t, ds = [encS s, encS t] ∧ (StOk s ∧ StOk t) ∧ o = .ok (.tuple [.str (judgeW s t), .int (sharedIn s t)]))))
variable (c_is_later : Cal P w K mg base "is_later" 7 ["one", "other"] (spX K fun ds o => (∃ a b, ds = [a, b] ∧ ¬ (isStand a = true ∧ isStand b = true) ∧ o = .err (.ref C)) ∨ (∃ s t, ds = [encS s, encS t] ∧ (StOk s ∧ StOk t) ∧ o = .ok (.bool (laterS s t)))))
variable (c_cut : Cal P w K mg base "cut" 6 ["stand", "place"] (spX K fun ds o => (∃ a p, ds = [a, p] ∧ isStand a = false ∧ o = .err (.ref C)) ∨ (∃ s p, ds = [encS s, p] ∧ (StOk s ∧ isWithin p 0 s.2 = false) ∧ o = .errV (.ref CN) "value" p) ∨ (∃ s i, ds = [encS s, .int i] ∧ (StOk s ∧ 0 ≤ i ∧ i ≤ s.2) ∧ o = .ok (encS (upTo s.1 i, i)))))
variable (c_is_stand : Cal P w K mg base "is_stand" 4 ["value"] (spG K fun ds d => ∃ a, ds = [a] ∧ d = .bool (isStand a)))
variable {g c PT : Addr} {oc dV kV doc pm cdM ct : Value} {an od : Option Addr} {osl : Array (Option Value)} (MF : MetF K mg C CN cs) (mMet : mg "_law_met" = some (.ref g)) (kMet : PySem.W.keepIn K (.ref g) = true)
variable (lkMet : K.lookup g = some ⟨oc, od, .func (PySem.W.fnOf "_law_met" "_law_met" (defArgs s__law_met) (defBody s__law_met) (defScope s__law_met) dV kV doc pm an cdM ct), osl⟩) (cdMet : PySem.W.codeIn K cdM "_law_met" = true) (bMet : Binds K (PySem.W.fnOf "_law_met" "_law_met" (defArgs s__law_met) (defBody s__law_met) (defScope s__law_met) dV kV doc pm an cdM ct) ["call"] [])
variable (TB : TabB base mg c PT)
include B c__law_one_of c_shared_place c_judged c_is_later c_cut c_is_stand MF mMet kMet lkMet cdMet bMet TB
theorem cal__law_near_right (F : FnP K "_law_near_right" s__law_near_right f fd) (hm : mg "_law_near_right" = some (.ref f))
    (hcv : ∀ (oc : Value) (od : Option Addr) (dV kV doc pm cdv ct : Value) (an : Option Addr) (osl : Array (Option Value)), K.lookup f = some ⟨oc, od, .func (PySem.W.fnOf "_law_near_right" "_law_near_right" (defArgs s__law_near_right) (defBody s__law_near_right) (defScope s__law_near_right) dV kV doc pm an cdv ct), osl⟩ → cdv = .ref c) :
    CalG P w K mg base "_law_near_right" 12 ["dice", "stand"] (spNR K [(PT, lamQ)] PT) :=
  calG_mk F hm sc__law_near_right (F.bindsN fun _ _ _ _ _ _ us hl => match us, hl with | [_, _], _ => rfl) (fun vs H Q E ⟨_, _, _, _, _, _, e, _⟩ => by rw [e]; rfl) fun oc od dV kV doc pm cdv ct an osl A outer s H vs Q E lk hr hgd h => by
    have ecd := hcv _ _ _ _ _ _ _ _ _ _ lk
    subst ecd
    have nd := sc__law_near_right.nd
    have hu64 := hr.units
    have hu := hr.units0
    let T : List (Addr × Str) := [(PT, lamQ)]
    have hmT : (PT, lamQ) ∈ T := List.mem_singleton.mpr rfl
    have huT : ∀ p ∈ T, p.1 = PT → p.2 = lamQ := fun p hp _ => by rw [List.mem_singleton.mp hp]
    refine ⟨_, PSs.nox (pss_cons (ps_asg (pv 1) (pg_tupK (K := K) rfl rfl (pgs_cons (pg_name (i := 2) nd rfl (by first | exact Or.inl rfl | exact Or.inr rfl)) (pgs_cons (pg_name (i := 3) nd rfl (by first | exact Or.inl rfl | exact Or.inr rfl)) pgs_nil)))) (pss_cons (ps_set (i := 4) nd rfl (by first | exact Or.inl rfl | exact Or.inr rfl) (pe_ix (r := rIx K) ix_seq (pv 2) (pe_un un_neg pe_int) (fun _ _ => rfl))) (pss_cons (ps_set (i := 5) nd rfl (by first | exact Or.inl rfl | exact Or.inr rfl) (pe_lst (pa_cons pe_non (pa_cons (pe_tup pa_nil) (pa_cons (pe_tup (pa_cons (pv 2) pa_nil)) (pa_cons (pe_lst (pa_cons (pv 2) (pa_cons (pv 3) pa_nil))) (pa_cons (pe_tup (pa_cons (pv 2) (pa_cons pe_non pa_nil))) (pa_cons (pe_tup (pa_cons (pv 2) (pa_cons pe_bl pa_nil))) (pa_cons (pe_tup (pa_cons (pv 2) (pa_cons (pe_un un_neg pe_int) pa_nil))) (pa_cons (pe_tup (pa_cons (pv 2) (pa_cons (pe_op (r := rAddG K) op_addG (pe_op op_powW pe_int pe_int) pe_int) pa_nil))) pa_nil)))))))))) (pss_cons (ps_set (i := 5) nd rfl (by first | exact Or.inl rfl | exact Or.inr rfl) (pe_op (r := rAddG K) op_addG (pv 5) (pe_lst (pa_cons (pe_tup (pa_cons (pv 2) (pa_cons (pv 3) (pa_cons pe_int pa_nil)))) (pa_cons (pe_tup (pa_cons (pe_callTy (r := rListS K) call_listS (by rfl) B.list (by decide +kernel) (pa_cons (pv 2) pa_nil)) (pa_cons (pv 3) pa_nil))) (pa_cons (pe_tup (pa_cons (pe_op (r := rAddG K) op_addG (pv 2) (pe_tup (pa_cons (pv 4) pa_nil))) (pa_cons (pv 3) pa_nil))) (pa_cons (pe_tup (pa_cons (pe_slice (r := rSlG K) sl_G (pv 2) (po_some pe_int) po_none) (pa_cons (pv 3) pa_nil))) (pa_cons (pe_tup (pa_cons (pe_tup pa_nil) (pa_cons pe_int pa_nil))) pa_nil)))))))) (pss_cons (ps_set (i := 5) nd rfl (by first | exact Or.inl rfl | exact Or.inr rfl) (pe_op (r := rAddG K) op_addG (pv 5) (pe_lst (pa_cons (pe_tup (pa_cons (pe_op (r := rAddG K) op_addG (pv 2) (pe_tup (pa_cons (pe_tup (pa_cons (pe_op (r := rAddG K) op_addG (pe_ix (r := rIx K) ix_seq (pv 4) pe_int (fun _ _ => rfl)) pe_int) (pa_cons (pe_op (r := rAddG K) op_addG (pv 3) pe_int) pa_nil))) pa_nil))) (pa_cons (pv 3) pa_nil))) (pa_cons (pe_tup (pa_cons (pe_tup (pa_cons (pe_tup (pa_cons pe_int (pa_cons pe_int pa_nil))) pa_nil)) (pa_cons pe_int pa_nil))) (pa_cons (pe_tup (pa_cons (pe_tup (pa_cons (pe_tup (pa_cons pe_int (pa_cons pe_int pa_nil))) pa_nil)) (pa_cons pe_int pa_nil))) (pa_cons (pe_tup (pa_cons (pe_tup (pa_cons (pe_tup (pa_cons pe_int (pa_cons pe_int (pa_cons pe_int pa_nil)))) pa_nil)) (pa_cons pe_int pa_nil))) pa_nil))))))) (pss_cons (ps_set (i := 5) nd rfl (by first | exact Or.inl rfl | exact Or.inr rfl) (pe_op (r := rAddG K) op_addG (pv 5) (pe_lst (pa_cons (pe_tup (pa_cons (pe_op (r := rAddG K) op_addG (pv 2) (pe_tup (pa_cons (pe_tup (pa_cons (pe_op (r := rAddG K) op_addG (pe_ix (r := rIx K) ix_seq (pv 4) pe_int (fun _ _ => rfl)) pe_int) (pa_cons (pe_op op_sub (pe_ix (r := rIx K) ix_seq (pv 4) pe_int (fun _ _ => rfl)) pe_int) pa_nil))) pa_nil))) (pa_cons (pv 3) pa_nil))) (pa_cons (pe_tup (pa_cons (pe_tup (pa_cons (pe_tup (pa_cons pe_bl (pa_cons pe_int pa_nil))) pa_nil)) (pa_cons pe_int pa_nil))) (pa_cons (pe_tup (pa_cons (pe_tup (pa_cons (pe_tup (pa_cons pe_int (pa_cons pe_int pa_nil))) (pa_cons (pe_tup (pa_cons pe_int (pa_cons pe_int pa_nil))) (pa_cons (pe_tup (pa_cons pe_int (pa_cons pe_int pa_nil))) pa_nil)))) (pa_cons pe_int pa_nil))) pa_nil)))))) (pss_cons (ps_set (i := 6) nd rfl (by first | exact Or.inl rfl | exact Or.inr rfl) (pe_callC c__law_one_of hr (by rfl) passL (pa_cons (pv 0) (pa_cons (pv 5) pa_nil)))) (pss_cons (ps_if (pt_cmpR op_notBl (pe_callC c_is_stand hr (by rfl) passL (pa_cons (pv 6) pa_nil)) pe_bl (nomark _)) (pss_one (ps_ret pe_bl)) pss_nil) (pss_cons (ps_set (i := 7) nd rfl (by first | exact Or.inl rfl | exact Or.inr rfl) (pe_lst (pa_cons (pe_tup (pa_cons (pe_op (r := rAddG K) op_addG (pv 2) (pe_tup (pa_cons (pe_tup (pa_cons (pe_op (r := rAddG K) op_addG (pe_ix (r := rIx K) ix_seq (pv 4) pe_int (fun _ _ => rfl)) pe_int) (pa_cons (pv 3) pa_nil))) pa_nil))) (pa_cons (pv 3) pa_nil))) (pa_cons (pe_tup (pa_cons (pv 2) (pa_cons (pe_op op_powW pe_int pe_int) pa_nil))) (pa_cons (pe_tup (pa_cons (pv 2) (pa_cons (pe_ix (r := rIx K) ix_seq (pv 4) pe_int (fun _ _ => rfl)) pa_nil))) (pa_cons (pe_tup (pa_cons (pe_tup (pa_cons (pe_tup (pa_cons pe_int (pa_cons pe_int pa_nil))) (pa_cons (pe_tup (pa_cons pe_int (pa_cons pe_int pa_nil))) pa_nil))) (pa_cons pe_int pa_nil))) pa_nil)))))) (pss_cons (ps_if (pt_cmpR (r := rNeD K) (op_neD hu64) (pe_lc (own := [("value", 8)]) (g := gName 8) rfl nd (pi_seqK (K := K) rfl (pv 7)) (blkOk_by (N := N__law_near_right) (sc := defScope s__law_near_right) (by decide +kernel)) (fun _ _ _ _ _ => pg_name (i := 8) nd rfl (by first | exact Or.inl rfl | exact Or.inr rfl)) (fun _ _ _ _ _ => (pts_one (pt_cmpR op_notBl (pe_callC c_is_stand hr (by rfl) passL (pa_cons (pv 8) pa_nil)) pe_bl (nomark _)))) (fun _ _ _ _ _ => (pv 8))) (pe_lst pa_nil) (nomark _)) (pss_one (ps_ret pe_bl)) pss_nil) (pss_cons (ps_set (i := 9) nd rfl (by first | exact Or.inl rfl | exact Or.inr rfl) (pe_callC c__law_one_of hr (by rfl) passL (pa_cons (pv 0) (pa_cons (pe_lst (pa_cons pe_non (pa_cons (pe_un un_neg pe_int) (pa_cons pe_bl (pa_cons pe_str (pa_cons (pe_op (r := rAddG K) op_addG (pv 3) pe_int) (pa_cons (pe_tup pa_nil) (pa_cons (pe_op op_powW pe_int pe_int) pa_nil)))))))) pa_nil)))) (pss_cons (ps_set (i := 10) nd rfl (by first | exact Or.inl rfl | exact Or.inr rfl) (pe_lst (pa_cons (LamX.pe_lamcall (T := T) (TT := TTmet K C CN) (k := 7) (by rfl) mMet kMet lkMet cdMet bMet sc__law_met rfl (Or.inl rfl) (met_gives (k := 7) B MF (hr.mono (by decide)) hgd) TB rfl hmT huT (hr.mono (by decide)) (lamS_by (sc := defScope s__law_near_right) (by decide +kernel)) rfl (fun _ _ _ _ _ => rfl) (fun A outer s H E f c' hr => (pe_callC c_cut hr (by rfl) (passes_call (takes_of rfl rfl rfl rfl) (fun _ _ _ _ h => h)) (pa_cons (pv 1) (pa_cons (pv 9) pa_nil))))) (pa_cons (LamD.pe_lamcall1 (T := T) (TT := TTmet K C CN) (k := 7) (by rfl) mMet kMet lkMet cdMet bMet sc__law_met rfl (Or.inl rfl) (met_gives (k := 7) B MF (hr.mono (by decide)) hgd) TB rfl hmT huT (hr.mono (by decide)) (LamD.lamS1_by (sc := defScope s__law_near_right) (N := N__law_near_right) (x := "one") (by decide +kernel)) (fun _ _ _ _ _ _ _ _ _ => ⟨_, rfl, rfl⟩) rfl rfl (fun A outer s H E f c' hr => (pe_callC c_cut hr (by rfl) (passes_call (takes_of rfl rfl rfl rfl) (fun _ _ _ _ h => h)) (pa_cons pe_non (pa_cons (pv 9) pa_nil))))) pa_nil)))) (pss_cons (ps_set (i := 10) nd rfl (by first | exact Or.inl rfl | exact Or.inr rfl) (pe_op (r := rAddG K) op_addG (pv 10) (pe_lst (pa_cons (LamX.pe_lamcall (T := T) (TT := TTmet K C CN) (k := 7) (by rfl) mMet kMet lkMet cdMet bMet sc__law_met rfl (Or.inl rfl) (met_gives (k := 7) B MF (hr.mono (by decide)) hgd) TB rfl hmT huT (hr.mono (by decide)) (lamS_by (sc := defScope s__law_near_right) (by decide +kernel)) rfl (fun _ _ _ _ _ => rfl) (fun A outer s H E f c' hr => (pe_callC c_shared_place hr (by rfl) (passes_call (takes_of rfl rfl rfl rfl) (fun _ _ _ _ h => h)) (pa_cons pe_non (pa_cons (pv 1) pa_nil))))) (pa_cons (LamD.pe_lamcall1 (T := T) (TT := TTmet K C CN) (k := 7) (by rfl) mMet kMet lkMet cdMet bMet sc__law_met rfl (Or.inl rfl) (met_gives (k := 7) B MF (hr.mono (by decide)) hgd) TB rfl hmT huT (hr.mono (by decide)) (LamD.lamS1_by (sc := defScope s__law_near_right) (N := N__law_near_right) (x := "one") (by decide +kernel)) (fun _ _ _ _ _ _ _ _ _ => ⟨_, rfl, rfl⟩) rfl rfl (fun A outer s H E f c' hr => (pe_callC c_judged hr (by rfl) (passes_call (takes_of rfl rfl rfl rfl) (fun _ _ _ _ h => h)) (pa_cons (pv 1) (pa_cons pe_non pa_nil))))) pa_nil))))) (pss_cons (ps_set (i := 10) nd rfl (by first | exact Or.inl rfl | exact Or.inr rfl) (pe_op (r := rAddG K) op_addG (pv 10) (pe_lst (pa_cons (LamX.pe_lamcall (T := T) (TT := TTmet K C CN) (k := 7) (by rfl) mMet kMet lkMet cdMet bMet sc__law_met rfl (Or.inl rfl) (met_gives (k := 7) B MF (hr.mono (by decide)) hgd) TB rfl hmT huT (hr.mono (by decide)) (lamS_by (sc := defScope s__law_near_right) (by decide +kernel)) rfl (fun _ _ _ _ _ => rfl) (fun A outer s H E f c' hr => (pe_callC c_is_later hr (by rfl) (passes_call (takes_of rfl rfl rfl rfl) (fun _ _ _ _ h => h)) (pa_cons pe_non (pa_cons pe_non pa_nil))))) (pa_cons (LamD.pe_lamcall1 (T := T) (TT := TTmet K C CN) (k := 7) (by rfl) mMet kMet lkMet cdMet bMet sc__law_met rfl (Or.inl rfl) (met_gives (k := 7) B MF (hr.mono (by decide)) hgd) TB rfl hmT huT (hr.mono (by decide)) (LamD.lamS1_by (sc := defScope s__law_near_right) (N := N__law_near_right) (x := "one") (by decide +kernel)) (fun _ _ _ _ _ _ _ _ _ => ⟨_, rfl, rfl⟩) rfl rfl (fun A outer s H E f c' hr => (pe_callC c_shared_place hr (by rfl) (passes_call (takes_of rfl rfl rfl rfl) (fun _ _ _ _ h => h)) (pa_cons (pv 1) (pa_cons (pe_tup (pa_cons (pe_tup pa_nil) (pa_cons pe_int pa_nil))) pa_nil))))) pa_nil))))) (pss_one (ps_ret (pe_cmpR (r := rEqD K) (op_eqD hu64) (pv 10) (pe_op (r := rAddG K) op_addG (pe_lst (pa_cons (pe_op (r := rAddG K) op_addG pe_str (pe_callB (r := rReprT K) (call_reprT hu64 hgd) (by rfl) B.repr (by decide +kernel) (pa_cons (pv 9) pa_nil))) pa_nil)) (pe_op op_mulG (pe_lst (pa_cons pe_str pa_nil)) pe_int)) (nomark _)))))))))))))))))), ?_⟩
    obtain ⟨M, J, G, p, v, s, rfl, a, hG, dj, tj, rv, hs, q⟩ := h
    have hsm := hs.small
    have hlb := hs.gr.len
    obtain ⟨cc, l, ec, hl⟩ := last_ex hs.ok.br.pos
    have hat : atI (s.1.map encP) (-1) = some (encP l) := by
      rw [ec, List.map_append]
      exact atI_last
    have f12 : CPowW 10 12 := ⟨by decide, by decide +kernel⟩
    have f39 : CPowW 10 39 := ⟨by decide, by decide +kernel⟩
    refine y_unT a (ed_var rfl rv) fun vb vp H1 a1 eG rb rp => ?_
    cases rp
    replace a1 := a1.nt
    replace rv := Dpn (Dpx eG rv)
    replace rb := Dpn rb
    replace eG : Ex G (nt (hid M H1)) := fun b o h => nt_of (eG b o h) fun ps e => hG b ps (by rw [h, e])
    have hG1 : NoT (nt (hid M H1)) := nt_no
    generalize nt (hid M H1) = G1 at a1 rv rb hG1 eG
    have rp : Dp K G1 (.int s.2) (.int s.2) := .int _
    show tSeq _ _ _ [some (.ref p), some v, some vb, some (.int s.2), none, none, none, none, none, none, none] H1
    refine y_asg (d := encP l) a1 (by walk_at "ed") fun vl H2 a2 eG2 rl => ?_
    replace a2 := a2.nt
    replace rv := Dpn (Dpx eG2 rv)
    replace rb := Dpn (Dpx eG2 rb)
    replace rl := Dpn rl
    replace eG : Ex G (nt (hid M H2)) := eG.trans fun b o h => nt_of (eG2 b o h) fun ps e => hG1 b ps (by rw [h, e])
    have hG2 : NoT (nt (hid M H2)) := nt_no
    clear eG2 rp
    generalize nt (hid M H2) = G2 at a2 rv rb rl hG2 eG
    have rp : Dp K G2 (.int s.2) (.int s.2) := .int _
    show tSeq _ _ _ [some (.ref p), some v, some vb, some (.int s.2), some vl, none, none, none, none, none, none] H2
    refine y_asg (K := K) (d := .list (odd1 s.1 s.2)) a2 (by walk_at "ed") fun vo H3 a3 eG3 ro => ?_
    replace a3 := a3.nt
    replace rv := Dpn (Dpx eG3 rv)
    replace rb := Dpn (Dpx eG3 rb)
    replace rl := Dpn (Dpx eG3 rl)
    replace ro := Dpn ro
    replace eG : Ex G (nt (hid M H3)) := eG.trans fun b o h => nt_of (eG3 b o h) fun ps e => hG2 b ps (by rw [h, e])
    have hG3 : NoT (nt (hid M H3)) := nt_no
    clear eG3 rp
    generalize nt (hid M H3) = G3 at a3 rv rb rl ro hG3 eG
    have rp : Dp K G3 (.int s.2) (.int s.2) := .int _
    show tSeq _ _ _ [some (.ref p), some v, some vb, some (.int s.2), some vl, some vo, none, none, none, none, none] H3
    have z1 : (odd1 s.1 s.2).length = 8 := rfl
    refine y_asg (K := K) (d := .list (odd1 s.1 s.2 ++ odd2 s.1 l s.2)) a3 (by walk_at "ed") fun vo H4 a4 eG4 ro => ?_
    replace a4 := a4.nt
    replace rv := Dpn (Dpx eG4 rv)
    replace rb := Dpn (Dpx eG4 rb)
    replace rl := Dpn (Dpx eG4 rl)
    replace ro := Dpn ro
    replace eG : Ex G (nt (hid M H4)) := eG.trans fun b o h => nt_of (eG4 b o h) fun ps e => hG3 b ps (by rw [h, e])
    have hG4 : NoT (nt (hid M H4)) := nt_no
    clear eG4 rp
    generalize nt (hid M H4) = G4 at a4 rv rb rl ro hG4 eG
    have rp : Dp K G4 (.int s.2) (.int s.2) := .int _
    show tSeq _ _ _ [some (.ref p), some v, some vb, some (.int s.2), some vl, some vo, none, none, none, none, none] H4
    have z2 : (odd2 s.1 l s.2).length = 5 := rfl
    refine y_asg (K := K) (d := .list (odd1 s.1 s.2 ++ odd2 s.1 l s.2 ++ odd3 s.1 l s.2)) a4 (by walk_at "ed") fun vo H5 a5 eG5 ro => ?_
    replace a5 := a5.nt
    replace rv := Dpn (Dpx eG5 rv)
    replace rb := Dpn (Dpx eG5 rb)
    replace rl := Dpn (Dpx eG5 rl)
    replace ro := Dpn ro
    replace eG : Ex G (nt (hid M H5)) := eG.trans fun b o h => nt_of (eG5 b o h) fun ps e => hG4 b ps (by rw [h, e])
    have hG5 : NoT (nt (hid M H5)) := nt_no
    clear eG5 rp
    generalize nt (hid M H5) = G5 at a5 rv rb rl ro hG5 eG
    have rp : Dp K G5 (.int s.2) (.int s.2) := .int _
    show tSeq _ _ _ [some (.ref p), some v, some vb, some (.int s.2), some vl, some vo, none, none, none, none, none] H5
    have z3 : (odd3 s.1 l s.2).length = 4 := rfl
    refine y_asg (K := K) (d := .list (odd1 s.1 s.2 ++ odd2 s.1 l s.2 ++ odd3 s.1 l s.2 ++ odd4 s.1 l s.2)) a5 (by walk_at "ed") fun vo H6 a6 eG6 ro => ?_
    replace a6 := a6.nt
    replace rv := Dpn (Dpx eG6 rv)
    replace rb := Dpn (Dpx eG6 rb)
    replace rl := Dpn (Dpx eG6 rl)
    replace ro := Dpn ro
    replace eG : Ex G (nt (hid M H6)) := eG.trans fun b o h => nt_of (eG6 b o h) fun ps e => hG5 b ps (by rw [h, e])
    have hG6 : NoT (nt (hid M H6)) := nt_no
    clear eG6 rp
    generalize nt (hid M H6) = G6 at a6 rv rb rl ro hG6 eG
    have rp : Dp K G6 (.int s.2) (.int s.2) := .int _
    show tSeq _ _ _ [some (.ref p), some v, some vb, some (.int s.2), some vl, some vo, none, none, none, none, none] H6
    have z4 : (odd1 s.1 s.2 ++ odd2 s.1 l s.2 ++ odd3 s.1 l s.2 ++ odd4 s.1 l s.2).length = 20 := rfl
    refine m_asg (K := K) (R := fun d => d ∈ odd1 s.1 s.2 ++ odd2 s.1 l s.2 ++ odd3 s.1 l s.2 ++ odd4 s.1 l s.2) a6 (en_imp (en_callD dj rfl (ds := [.list (odd1 s.1 s.2 ++ odd2 s.1 l s.2 ++ odd3 s.1 l s.2 ++ odd4 s.1 l s.2)]) (by walk_at "eda") ⟨_, rfl, by rw [z4]; decide, by rw [z4]; decide⟩) ?_) fun vbad H7 dbad a7 eG7 hbad rbad => ?_
    · rintro d ⟨es, e, hd⟩
      have e' := (PyData.list.inj (List.cons.inj e).1)
      rw [← e'] at hd
      exact hd
    replace a7 := a7.nt
    replace rv := Dpn (Dpx eG7 rv)
    replace rb := Dpn (Dpx eG7 rb)
    replace rl := Dpn (Dpx eG7 rl)
    replace rbad := Dpn rbad
    replace eG : Ex G (nt (hid M H7)) := eG.trans fun b o h => nt_of (eG7 b o h) fun ps e => hG6 b ps (by rw [h, e])
    have hG7 : NoT (nt (hid M H7)) := nt_no
    clear eG7 rp
    generalize nt (hid M H7) = G7 at a7 rv rb rl rbad hG7 eG
    have rp : Dp K G7 (.int s.2) (.int s.2) := .int _
    have hbadF : isStand dbad = false := odd_all hs.ok hl dbad hbad
    show tSeq _ _ _ [some (.ref p), some v, some vb, some (.int s.2), some vl, some vo, some vbad, none, none, none, none] H7
    refine y_if0 (K := K) (b := false) a7 (EvB.is (by walk_at "eb0") (by rw [hbadF]; rfl)) (fun z => by cases z) (fun _ H8 a8 => ?_)
    refine y_asg (K := K) (d := .list (fineL s.1 l s.2)) a8 (by walk_at "ed") fun vf H8 a8 eG8 rf => ?_
    replace a8 := a8.nt
    replace rv := Dpn (Dpx eG8 rv)
    replace rb := Dpn (Dpx eG8 rb)
    replace rl := Dpn (Dpx eG8 rl)
    replace rf := Dpn rf
    replace eG : Ex G (nt (hid M H8)) := eG.trans fun b o h => nt_of (eG8 b o h) fun ps e => hG7 b ps (by rw [h, e])
    have hG8 : NoT (nt (hid M H8)) := nt_no
    clear eG8 rp
    generalize nt (hid M H8) = G8 at a8 rv rb rl rf hG8 eG
    have rp : Dp K G8 (.int s.2) (.int s.2) := .int _
    show tSeq _ _ _ [some (.ref p), some v, some vb, some (.int s.2), some vl, some vo, some vbad, some vf, none, none, none] H8
    have hfil : (((fineL s.1 l s.2).filter fun d => !decide (isStand d = true)).map fun d => d) = [] := by
      rw [List.map_eq_nil_iff, List.filter_eq_nil_iff]
      intro d hd
      rw [fine_all hs.ok hs.gr hsm.2 hl d hd]
      decide
    have fe : SeqAt.shaped (.list []) = true := (sh_lst sh_nil).ok (d := .list [])
    refine y_if0 (K := K) (b := false) a8 (EvB.is (et_tst (ed_op (EvD.is (ed_lc (fun d => !decide (isStand d = true)) (fun d => d) (ed_var rfl rf) (.inl rfl) (by show (4 : Nat) ≤ 40000; decide) fun d hd => ?_) (congrArg PyData.list hfil)) (ed_lst eda_nil (by decide)) (rd_ne fe fe))) (by rw [eqv_lst, eqva_nil]; rfl)) (fun z => by cases z) (fun _ H9 a9 => ?_)
    · exact lct_name (fun _ => rfl) fun x H1 e1 rx => ⟨by walk_at "eb", fun _ => ed_var rfl rx⟩
    let far : List PyData := [.none, .int (-1), .bool true, .str "0", .int (s.2 + 1), .tuple [], .int ((10 : Int) ^ (39 : Int).toNat)]
    refine m_asg (K := K) (R := fun d => d ∈ far) a9 (en_imp (en_callD dj rfl (ds := [.list far]) (eda_cons (by walk_at "ed") eda_nil) ⟨_, rfl, (by show (1 : Nat) ≤ 7; decide), (by show (7 : Nat) ≤ 1000; decide)⟩) ?_) fun vfar H9 dfar a9 eG9 hfar rfar => ?_
    · rintro d ⟨es, e, hd⟩
      have e' := (PyData.list.inj (List.cons.inj e).1)
      rw [← e'] at hd
      exact hd
    replace a9 := a9.nt
    replace rv := Dpn (Dpx eG9 rv)
    replace rfar := Dpn rfar
    replace eG : Ex G (nt (hid M H9)) := eG.trans fun b o h => nt_of (eG9 b o h) fun ps e => hG8 b ps (by rw [h, e])
    have hG9 : NoT (nt (hid M H9)) := nt_no
    clear eG9 rp
    generalize nt (hid M H9) = G9 at a9 rv rfar hG9 eG
    have rp : Dp K G9 (.int s.2) (.int s.2) := .int _
    obtain ⟨w1, w2, w3, w4⟩ := far_ok hsm.1 hsm.2 hfar
    show tSeq _ _ _ [some (.ref p), some v, some vb, some (.int s.2), some vl, some vo, some vbad, some vf, none, some vfar, none] H9
    refine t_asg2 a9 (es_num hG9 tj (d := dfar) (by walk_at "eda") (.inr (.inl ⟨s, dfar, rfl, ⟨hs.ok, w2⟩, rfl⟩)) w1 w3) (es_op hG9 tj (ds := [.none, dfar]) (by walk_at "eda") (.inl ⟨_, _, rfl, rfl, rfl⟩)) (fun vt H10 a10 eG10 rt => ?_) hG9
    replace rv := Dpx eG10 rv
    replace rfar := Dpx eG10 rfar
    replace eG : Ex G (nt (hid M H10)) := eG.trans eG10
    have hG10 : NoT (nt (hid M H10)) := nt_no
    clear eG10 rp
    generalize nt (hid M H10) = G10 at a10 rv rfar rt hG10 eG
    have rp : Dp K G10 (.int s.2) (.int s.2) := .int _
    show tSeq _ _ _ [some (.ref p), some v, some vb, some (.int s.2), some vl, some vo, some vbad, some vf, none, some vfar, some vt] H10
    refine t_more2 a10 hG10 rfl rt (by simp) (es_op hG10 tj (ds := [.none, encS s]) (by walk_at "eda") (.inl ⟨_, _, rfl, (fun z => by cases z.1), rfl⟩)) (es_op hG10 tj (ds := [encS s, .none]) (by walk_at "eda") (.inl ⟨_, _, rfl, (fun z => by cases z.2), rfl⟩)) (fun vt H11 a11 eG11 rt => ?_)
    replace rv := Dpx eG11 rv
    replace rfar := Dpx eG11 rfar
    replace eG : Ex G (nt (hid M H11)) := eG.trans eG11
    have hG11 : NoT (nt (hid M H11)) := nt_no
    clear eG11 rp
    generalize nt (hid M H11) = G11 at a11 rv rfar rt hG11 eG
    have rp : Dp K G11 (.int s.2) (.int s.2) := .int _
    show tSeq _ _ _ [some (.ref p), some v, some vb, some (.int s.2), some vl, some vo, some vbad, some vf, none, some vfar, some vt] H11
    refine t_more2 a11 hG11 rfl rt (by simp) (es_op hG11 tj (ds := [.none, .none]) (by walk_at "eda") (.inl ⟨_, _, rfl, (fun z => by cases z.1), rfl⟩)) (es_op hG11 tj (ds := [encS s, .tuple [.tuple [], .int 0]]) (by walk_at "eda") (.inl ⟨_, _, rfl, (fun z => by rw [stand_no_br (p := .int 0) (show isBranch (.tuple []) = false by decide +kernel)] at z; cases z.2), rfl⟩)) (fun vt H12 a12 eG12 rt => ?_)
    replace rv := Dpx eG12 rv
    replace rfar := Dpx eG12 rfar
    replace eG : Ex G (nt (hid M H12)) := eG.trans eG12
    have hG12 : NoT (nt (hid M H12)) := nt_no
    clear eG12 rp
    generalize nt (hid M H12) = G12 at a12 rv rfar rt hG12 eG
    have rp : Dp K G12 (.int s.2) (.int s.2) := .int _
    show tRet _ _ [some (.ref p), some v, some vb, some (.int s.2), some vl, some vo, some vbad, some vf, none, some vfar, some vt] H12
    have w5 : (PyData.str "operation").canLay0 = true := by decide +kernel
    have sg1 : SeqAt.shaped (.list (([.str (("number " : Str) ++ reprD dfar), .str "operation"] ++ [.str "operation", .str "operation"]) ++ [.str "operation", .str "operation"])) = true := (sh_lst (sh_cons (sh_str w4) (sh_cons (sh_str w5) (sh_cons (sh_str w5) (sh_cons (sh_str w5) (sh_cons (sh_str w5) (sh_cons (sh_str w5) sh_nil))))))).ok (d := .list [.str (("number " : Str) ++ reprD dfar), .str "operation", .str "operation", .str "operation", .str "operation", .str "operation"])
    have sg2 : SeqAt.shaped (.list ([.str (("number " : Str) ++ reprD dfar)] ++ [.str "operation", .str "operation", .str "operation", .str "operation", .str "operation"])) = true := sg1
    have hcl : (("number " : Str).length + (reprD dfar).length) ≤ 100000 := by
      have e7 : ("number " : Str).length = 7 := by decide +kernel
      omega
    have h2 : EvD K (tOp (rAddG K) (tLst (tCons (tOp (rAddG K) (tC (.str "number ")) (tCB (rReprT K) (tCons (tVar 9) tNil))) tNil)) (tOp rMulG (tLst (tCons (tC (.str "operation")) tNil)) (tC (.int 5)))) [some (.ref p), some v, some vb, some (.int s.2), some vl, some vo, some vbad, some vf, none, some vfar, some vt] G12 (.list ([.str (("number " : Str) ++ reprD dfar)] ++ (List.replicate (5 : Int).toNat [PyData.str "operation"]).flatten)) :=
      ed_op (ed_lst (eda_cons (ed_op ed_str (ed_cb (eda_cons (ed_var rfl rfar) eda_nil) (rc_reprR w1)) (rg_catS hcl)) eda_nil) (by show 1 ≤ 100000; decide)) (ed_repG (eda_cons ed_str eda_nil) (by show 1 ≤ 1000; decide) ⟨by decide, by decide⟩) (rg_catL (by show 1 + 5 ≤ 100000; decide))
    have h3 := ed_op (ed_var (i := 10) (σ := [some (.ref p), some v, some vb, some (.int s.2), some vl, some vo, some vbad, some vf, none, some vfar, some vt]) rfl rt) h2 (rd_eq sg1 sg2)
    refine m_ret (K := K) (R := fun d => d = .bool true) a12 (en_D (EvD.is h3 ?_)) ?_
    · show PyData.bool (PyData.eqv (.list [.str (("number " : Str) ++ reprD dfar), .str "operation", .str "operation", .str "operation", .str "operation", .str "operation"]) (.list [.str (("number " : Str) ++ reprD dfar), .str "operation", .str "operation", .str "operation", .str "operation", .str "operation"])) = .bool true
      rw [eqv_lst, eqva_cons, eqva_cons, eqva_cons, eqva_cons, eqva_cons, eqva_cons, eqva_nil, eqv_str, eqv_str, decide_eq_true rfl, decide_eq_true rfl]
      rfl
    · intro v' H' d' _ a' hd rd
      subst hd
      cases rd
      exact q H' ⟨⟨a'.x.tk, eG.trans a'.x.ex⟩, a'.j, a'.u⟩
end
end K95
end
section
set_option Elab.async false
set_option linter.all false
set_option maxRecDepth 100000
set_option maxHeartbeats 2000000
/-! A comprehension over a range; dice and a table of code objects side by side. -/
namespace DL
open PySem PySem.Spec PyProof.Rows L2 Evl LamX
section
variable {K : PySem.W.Frag} {H : Hp} {σ : L2.St}
theorem ed_lcR {g : TG} {tt : TT} {te : TE} {vs : List Nat} {ta : TA} {n : Nat} (m : Nat → PyData) (h : EvDA K ta σ H [.int (n : Int)]) (hz : n ≤ 40000) (ht : ∀ i, i < n → LcT K g tt te vs σ H (.int (i : Int)) true (m i)) :
    EvD K (tLc (iRng1 ta) g tt te vs) σ H (.list ((List.range n).map m)) := fun M H0 e Q q =>
  h M H0 e _ fun xs H1 e1 r => by
    obtain ⟨v, rfl, r1⟩ := dpa1 r
    cases r1
    have xt := e.step e1
    refine ⟨n, rfl, by omega, by omega, fun Dl hD => ?_⟩
    rw [Int.toNat_natCast]
    refine lc_range (lo := 0) (fun i => LcI K M H1 Dl ((List.range i).map m)) ⟨hD, Ex.new hD, [], upd_same, .nil⟩ (fun i H' hi p => ?_) fun H' p => ?_
    · have sh : ((List.range i).map m).length < 50000 := by rw [List.length_map, List.length_range]; omega
      have := lci_turn (b := true) xt.tk p sh (.int (i : Int)) (fun M' x' H2 z r' => ht i hi M' x' H2 (z.lower xt.ex) r')
      rw [Int.zero_add, List.range_succ, List.map_append]
      exact this
    · obtain ⟨p1, p2, acc, p3, p4⟩ := p
      refine q _ H' (e1.trans p2) (.lst (sq_of ?_) (Ex.unhid p4))
      rw [hid_no (xt.fresh p1)]
      exact p3
/-- the table and the dice -/
abbrev MD (PT p : Addr) : Addr → Prop := fun b => b = PT ∨ b = p
def JD (T : List (Addr × Str)) (p : Addr) : Hp → Prop := fun H => Tabs T H ∧ Dice p H
theorem tabs_up {T : List (Addr × Str)} : Up (Tabs T) := fun H H' e t q hq => (t q hq).ext e
theorem jd_up {T : List (Addr × Str)} {p : Addr} : Up (JD T p) := fun H H' e j => ⟨tabs_up _ _ e j.1, Dice.up _ _ e j.2⟩
theorem dj_jd {T : List (Addr × Str)} {PT p : Addr} (hT : ∀ q ∈ T, q.1 = PT) (hp : PT ≠ p) : DJ p (MD PT p) (JD T p) where
  m := .inr rfl
  d := fun H j => j.2
  j := fun H H' j hd hb => by
    refine ⟨fun q hq => ?_, hd⟩
    obtain ⟨ps, h1, h2⟩ := j.1 q hq
    obtain ⟨a, b, c, hl, _⟩ := j.2
    refine ⟨ps, hb _ _ (by rw [hT q hq]; exact hp) h1, h2.1, fun pos cv e => ?_⟩
    obtain ⟨c1, e1, e2⟩ := h2.2 pos cv e
    refine ⟨c1, e1, hb _ _ (fun z => ?_) e2⟩
    rw [z, hl] at e2
    cases e2
theorem tj_jd {T : List (Addr × Str)} {PT p : Addr} {q : Str} (hq : (PT, q) ∈ T) : TJ T PT (MD PT p) (JD T p) where
  t := fun H j => j.1
  j := fun H H' j e t => ⟨t, by
    obtain ⟨a, b, c, h, z⟩ := j.2
    exact ⟨a, b, c, e _ _ h (fun ps y => by cases y), z⟩⟩
  o := fun H j b hb => by
    rcases hb with rfl | rfl
    · exact .inl rfl
    · refine .inr fun ps z => ?_
      obtain ⟨a, b, c, h, _⟩ := j.2
      rw [h] at z
      cases z
  p := ⟨q, hq⟩
variable {G H0 H1 H2 : Hp} {M : Addr → Prop} {J : Hp → Prop} {D : Ends} {tu tw u : TS} {t t2 : TT}
theorem ax_dice {T : List (Addr × Str)} {PT p : Addr} (a : Ax (fun b => b = PT) (Tabs T) G H1) (e : Ex H1 H2) (hp : H1 p = none) (hd : Dice p H2) : Ax (MD PT p) (JD T p) G H2 := by
  refine ⟨⟨fun b hb => ?_, fun b o h => ?_⟩, ⟨tabs_up _ _ e a.j, hd⟩, jd_up⟩
  · rcases hb with hb | rfl
    · exact (a.step e).x.tk b hb
    · obtain ⟨x, y, z, h, _⟩ := hd
      rw [h]
      exact fun q => by cases q
  · have h1 := a.x.ex b o h
    have hb : ¬ b = PT := fun z => by rw [hid_yes (M := fun b => b = PT) z] at h1; cases h1
    rw [hid_no (M := fun b => b = PT) hb] at h1
    rw [hid_no (fun z => z.elim hb fun z2 => by rw [z2, hp] at h1; cases h1)]
    exact e _ _ h1
theorem ax_back {T : List (Addr × Str)} {PT p : Addr} (a : Ax (MD PT p) (JD T p) G H1) : Ax (fun b => b = PT) (Tabs T) G H1 := by
  refine ⟨⟨fun b hb => a.x.tk b (.inl hb), fun b o h => ?_⟩, a.j.1, tabs_up⟩
  have h1 := a.x.ex b o h
  have hb : ¬ MD PT p b := fun z => by rw [hid_yes z] at h1; cases h1
  rw [hid_no hb] at h1
  rw [hid_no (M := fun b => b = PT) fun z => hb (.inl z)]
  exact h1
/-- dice = f(script, at) -/
theorem y_dice {ta : TA} {E : XK} {ns : List Int} {i k : Nat} (a : Ax M J G H) (h : EvDA K ta σ G [.list (ns.map .int), .int (Int.ofNat k)]) (hk : k ≤ 100) (kk : ∀ p H1 H2, Ax M J G H1 → Ex H1 H2 → H1 p = none → Dice p H2 → u D (σ.set i (some (.ref p))) H2) :
    tSeq (tAsg (tCall (spDice K) [] E ta) (gName i)) u D σ H := h M H a.x _ fun vs H1 e r =>
  ⟨M, ns, k, (a.step e).x.tk, by rw [List.append_nil]; exact r, hk, fun p H2 e2 hp hd => kk p H1 H2 (a.step e) e2 hp hd⟩
theorem z_or (a : Ax M J G H) (h : EvB K t σ G false) (k : ∀ H1, Ax M J G H1 → tIfS t2 tu tw D σ H1) : tIfS (tOr t t2) tu tw D σ H := h M H a.x _ fun H1 e => by
  rw [if_neg (by decide)]
  exact k H1 (a.step e)
end
end DL
end
section
set_option Elab.async false
set_option linter.all false
set_option maxRecDepth 100000
set_option maxHeartbeats 8000000
/-! The walk: the law. -/
namespace K95
open PySem PySem.Spec PyProof.Rows L2 Evl DL LamX LamD
/-! ### the reading by data, step by step: local words -/
local macro_rules | `(tactic| walk_at "fact") => `(tactic| first | assumption | rfl | exact sh_int.ok | exact sh_bl.ok | omega | decide | (simp; done) | (simp; omega))
local macro_rules | `(tactic| walk_at "callR") => `(tactic| first | exact ⟨_, rfl, rfl⟩ | exact ⟨_, _, rfl, rfl⟩ | exact ⟨_, rfl, by walk_at "fact", rfl⟩ | exact ⟨_, _, rfl, by walk_at "fact", rfl⟩ | exact ⟨_, _, _, rfl, rfl⟩)
local macro_rules | `(tactic| walk_at "callX") => `(tactic| first | exact .inr ⟨_, _, rfl, by walk_at "fact", rfl⟩ | exact .inr (.inr ⟨_, _, rfl, by walk_at "fact", rfl⟩))
local macro_rules | `(tactic| walk_at "rd") => `(tactic| first
  | with_reducible exact rg_add | with_reducible exact rd_sub | with_reducible exact rd_lt | with_reducible exact rd_le | with_reducible exact rg_gt | with_reducible exact rg_gtT | with_reducible exact rd_ge
  | exact rd_ixT (by walk_at "fact") | exact rd_ixL (by walk_at "fact")
  | exact rg_catT (by walk_at "fact") | exact rg_catL (by walk_at "fact") | exact rg_catS (by walk_at "fact")
  | exact rd_eq (by walk_at "fact") (by walk_at "fact") | exact rd_ne (by walk_at "fact") (by walk_at "fact")
  | exact rd_isB | exact rd_notB | exact rd_inS | exact rd_ninS
  | exact rd_mod (by walk_at "fact") | exact rd_fdivW (by walk_at "fact") | exact rg_mul (by walk_at "fact") | exact rd_pow (by walk_at "fact"))
local macro_rules | `(tactic| walk_at "rc") => `(tactic| first
  | with_reducible exact rc_lenT | with_reducible exact rc_lenL | with_reducible exact rc_tupleL | with_reducible exact rc_listT | with_reducible exact rc_listL | with_reducible exact rc_max2 | with_reducible exact rc_min2 | with_reducible exact rc_abs | with_reducible exact rc_int | with_reducible exact rc_intB | with_reducible exact rc_reprB | exact rc_reprR (by walk_at "fact"))
local macro_rules | `(tactic| walk_at "eda") => `(tactic| first
  | with_reducible exact eda_nil
  | ((with_reducible refine' eda_cons ?k1 ?k2); (case k1 => walk_at "ed0"); (case k2 => walk_at "eda"))
  | ((with_reducible refine' eda_starL ?k1 ?k2); (case k1 => walk_at "ed0"); (case k2 => walk_at "eda"))
  | ((with_reducible refine' eda_starT ?k1 ?k2); (case k1 => walk_at "ed0"); (case k2 => walk_at "eda")))
local macro_rules | `(tactic| walk_at "ed0") => `(tactic| first
  | with_reducible exact ed_int | with_reducible exact ed_str | with_reducible exact ed_bl | with_reducible exact ed_non
  | ((with_reducible refine' ed_var ?k1 ?k2); (case k1 => rfl); (case k2 => assumption))
  | ((with_reducible refine' ed_isi ?k1 ?k2); (case k1 => walk_at "ed0"); (case k2 => first | exact kit_int _ | exact kit_bool _ | exact kit_tup _ | exact kit_str _))
  | ((with_reducible refine' ed_repG ?k1 ?k2 ?k3); (case k1 => walk_at "eda"); (case k2 => walk_at "fact"); (case k3 => walk_at "fact"))
  | ((with_reducible refine' ed_op ?k1 ?k2 ?k3); (case k1 => walk_at "ed0"); (case k2 => walk_at "ed0"); (case k3 => walk_at "rd"))
  | ((with_reducible refine' ed_neg ?k1); (case k1 => walk_at "ed0"))
  | ((with_reducible refine' ed_cb ?k1 ?k2); (case k1 => walk_at "eda"); (case k2 => walk_at "rc"))
  | ((with_reducible refine' ed_call ?k1 ?k2); (case k1 => walk_at "eda"); (case k2 => walk_at "callR"))
  | ((with_reducible refine' ed_callX ?k1 ?k2); (case k1 => walk_at "eda"); (case k2 => walk_at "callX"))
  | ((with_reducible refine' ed_tup ?k1 ?k2); (case k1 => walk_at "eda"); (case k2 => walk_at "fact"))
  | ((with_reducible refine' ed_lst ?k1 ?k2); (case k1 => walk_at "eda"); (case k2 => walk_at "fact"))
  | ((with_reducible refine' ed_slT ?k1 ?k2 ?k3); (case k1 => walk_at "ed0"); (case k2 => walk_at "eo"); (case k3 => walk_at "eo"))
  | ((with_reducible refine' ed_slL ?k1 ?k2 ?k3); (case k1 => walk_at "ed0"); (case k2 => walk_at "eo"); (case k3 => walk_at "eo"))
  | ((with_reducible refine' ed_and ?k1 (fun _ => ?k2)); (case k1 => walk_at "ed0"); (case k2 => walk_at "ed0"))
  | ((with_reducible refine' ed_or ?k1 (fun _ => ?k2)); (case k1 => walk_at "ed0"); (case k2 => walk_at "ed0"))
  | ((with_reducible refine' ed_not ?k1); (case k1 => walk_at "ed0"))
  | ((with_reducible refine' ed_chain ?k1 ?k2 ?k3 (fun _ => ?k4) (fun _ => ?k5)); (case k1 => walk_at "ed0"); (case k2 => walk_at "ed0"); (case k3 => walk_at "rd"); (case k4 => walk_at "ed0"); (case k5 => walk_at "rd"))
  | ((with_reducible refine' ed_ifv ?k1 (fun _ => ?k2) (fun _ => ?k3)); (case k1 => walk_at "eb0"); (case k2 => walk_at "ed0"); (case k3 => walk_at "ed0"))
  | ((with_reducible refine' ed_listZip ?k1); (case k1 => walk_at "eda")))
local macro_rules | `(tactic| walk_at "eo") => `(tactic| first
  | with_reducible exact eo_no
  | ((with_reducible refine' eo_part ?k1); (case k1 => walk_at "ed0")))
local macro_rules | `(tactic| walk_at "eb0") => `(tactic| first
  | ((with_reducible refine' eb_and ?k1 (fun _ => ?k2)); (case k1 => walk_at "eb0"); (case k2 => walk_at "eb0"))
  | ((with_reducible refine' eb_or ?k1 (fun _ => ?k2)); (case k1 => walk_at "eb0"); (case k2 => walk_at "eb0"))
  | ((with_reducible refine' eb_not ?k1); (case k1 => walk_at "eb0"))
  | ((with_reducible refine' et_tst ?k1); (case k1 => walk_at "ed0"))
  | ((with_reducible refine' et_Bv ?k1); (case k1 => walk_at "ed0")))
local macro_rules | `(tactic| walk_at "ed") => `(tactic| (refine' EvD.is ?k1 ?k2; (case k1 => walk_at "ed0"); (case k2 => first | rfl | (simp; done))))
local macro_rules | `(tactic| walk_at "eb") => `(tactic| (refine' EvB.is ?k1 ?k2; (case k1 => walk_at "eb0"); (case k2 => first | rfl | (simp; done))))
def L20 : Br := (List.range 20).map fun i : Nat => ((i : Int), (i : Int))
theorem encS_inj {s t : Br × Int} (h : encS s = encS t) : s = t := by
  obtain ⟨a, i⟩ := s
  obtain ⟨b, j⟩ := t
  have h1 := PyData.tuple.inj h
  have h2 : a = b := encB_inj (List.cons.inj h1).1
  have h3 : i = j := PyData.int.inj (List.cons.inj (List.cons.inj h1).2).1
  subst h2 h3
  rfl
theorem ok_of {s : Br × Int} (h : isStand (encS s) = true) : StOk s := by
  obtain ⟨t, e, ht⟩ := isStand_iff.mp h
  rw [encS_inj e]
  exact ht
theorem l20_a : isStand (encS (L20, 19)) = true := by decide +kernel
theorem l20_b : StOk (L20, 25) := ok_of (by decide +kernel)
theorem l20_c : StOk (L20.take 19, 18) := ok_of (by decide +kernel)
theorem l20_d : isStand (.tuple [.tuple (L20.map encP ++ [.tuple [.int 20, .int 20]]), .int 20]) = false := by decide +kernel
theorem l20_e : PyData.tuple [.str (judgeW (L20, 25) (L20.take 19, 18)), .int (sharedIn (L20, 25) (L20.take 19, 18))] = .tuple [.str "ahead", .int 18] := by
  have h1 : judgeW (L20, 25) (L20.take 19, 18) = ("ahead" : Str) := by decide +kernel
  have h2 : sharedIn (L20, 25) (L20.take 19, 18) = 18 := by decide +kernel
  rw [h1, h2]
theorem l20_f : PyData.tuple [.tuple (cutD (L20.map encP) none (some 19)), .int 18] = encS (L20.take 19, 18) := rfl
/-- law(script) -/
def spLaw (K : PySem.W.Frag) (P : Addr) : Sp := fun vs H Q _ => ∃ a ns, vs = [.ref a] ∧ (ns : List Int).length ≤ 1000 ∧ H P = some (.tbl #[]) ∧ SqL K H a (ns.map V.int) ∧ ∀ H', Q (.bl true) H'
theorem tabs_new {P : Addr} {H : Hp} {q : Str} (h : H P = some (.tbl #[])) : Tabs [(P, q)] H := fun p hp => by
  rw [List.mem_singleton.mp hp]
  exact ⟨#[], h, trivial, fun pos cv z => by cases z⟩
theorem dpa_ints {K : PySem.W.Frag} {H : Hp} : ∀ ns : List Int, DpAll K H (ns.map V.int) (ns.map PyData.int)
  | [] => .nil
  | i :: ns => .cons (.int i) (dpa_ints ns)
theorem sql_hid {K : PySem.W.Frag} {H : Hp} {a P : Addr} {xs : List V} {ps : Array Value} (hP : H P = some (.tbl ps)) (h : SqL K H a xs) : SqL K (hid (fun b => b = P) H) a xs := by
  have key : ∀ o, H a = some o → (∀ ps, o ≠ .tbl ps) → hid (fun b => b = P) H a = some o := fun o e hn => by
    rw [hid_no (M := fun b => b = P) (fun z => by rw [z, hP] at e; cases e; exact hn _ rfl)]
    exact e
  rcases h with (h | ⟨o, h⟩) | h
  · exact .inl (.inl (key _ h (fun ps z => by cases z)))
  · exact .inl (.inr ⟨o, key _ h (fun ps z => by cases z)⟩)
  · exact .inr h
section
variable {P : Program} {w : World} {K : PySem.W.Frag} {mg : Str → Option Value} {base : Heap} {f : Addr} {fd : FuncData} (B : Bi mg) {C CN PT : Addr}
variable (c__law_dice : Cal P w K mg base "_law_dice" 1 ["script", "at"] (spDice K))
variable (c__law_two : Cal P w K mg base "_law_two" 3 ["dice"] (spD K (fun ds => ds = []) fun ds d => ∃ s t, d = .list [encS s, encS t] ∧ Dr s ∧ Dr t))
variable (c__law_two_right : Cal P w K mg base "_law_two_right" 8 ["one", "other"] (spG K fun ds d => ∃ s t : Br × Int, ds = [encS s, encS t] ∧ (Dr s ∧ Dr t) ∧ d = .bool true))
variable (c__law_near_right : CalG P w K mg base "_law_near_right" 12 ["dice", "stand"] (spNR K [(PT, lamQ)] PT))
variable (c_judged : Cal P w K mg base "judged" 7 ["one", "other"] (spX K fun ds o => (∃ a b, ds = [a, b] ∧ ¬ (isStand a = true ∧ isStand b = true) ∧ o = .err (.ref C)) ∨ (∃ s t, ds = [encS s, encS t] ∧ (StOk s ∧ StOk t) ∧ o = .ok (.tuple [.str (judgeW s t), .int (sharedIn s t)]))))
variable (c_is_stand : Cal P w K mg base "is_stand" 4 ["value"] (spG K fun ds d => ∃ a, ds = [a] ∧ d = .bool (isStand a)))
include B c__law_dice c__law_two c__law_two_right c__law_near_right c_judged c_is_stand
theorem cal_law (F : FnP K "law" s_law f fd) (hm : mg "law" = some (.ref f)) : CalG P w K mg base "law" 13 ["script"] (spLaw K PT) :=
  calG_mk F hm sc_law (F.bindsN fun _ _ _ _ _ _ us hl => match us, hl with | [_], _ => rfl) (fun vs H Q E ⟨_, _, e, _⟩ => by rw [e]; rfl) fun oc od dV kV doc pm cdv ct an osl A outer s H vs Q E lk hr hgd h => by
    have nd := sc_law.nd
    have hu64 := hr.units
    have hu := hr.units0
    refine ⟨_, PSs.nox (pss_cons (ps_for PassesOwn.never rfl (pi_range1 (by rfl) B.range (pa_cons (pe_callB (call_max2' rfl) (by rfl) B.max (by decide +kernel) (pa_cons pe_int (pa_cons (pe_callB (call_min2' rfl) (by rfl) B.min (by decide +kernel) (pa_cons pe_int (pa_cons (pe_callB (r := rLenS K) call_lenS (by rfl) B.len (by decide +kernel) (pa_cons (pv 0) pa_nil)) pa_nil))) pa_nil))) pa_nil)) (pg_name (i := 1) nd rfl (by first | exact Or.inl rfl | exact Or.inr rfl)) (pss_cons (ps_set (i := 2) nd rfl (by first | exact Or.inl rfl | exact Or.inr rfl) (pe_callC c__law_dice hr (by rfl) passL (pa_cons (pv 0) (pa_cons (pv 1) pa_nil)))) (pss_one (ps_for PassesOwn.never rfl (pi_range1 (by rfl) B.range (pa_cons pe_int pa_nil)) (pg_name (i := 3) nd rfl (by first | exact Or.inl rfl | exact Or.inr rfl)) (pss_cons (ps_asg (pe_callC c__law_two hr (by rfl) passL (pa_cons (pv 2) pa_nil)) (pg_unlK (K := K) rfl rfl (pgs_cons (pg_name (i := 4) nd rfl (by first | exact Or.inl rfl | exact Or.inr rfl)) (pgs_cons (pg_name (i := 5) nd rfl (by first | exact Or.inl rfl | exact Or.inr rfl)) pgs_nil)))) (pss_one (ps_if (pw_or (pt_not (pt_val (pe_callC c__law_two_right hr (by rfl) passL (pa_cons (pv 4) (pa_cons (pv 5) pa_nil))))) (pw_or (pt_not (pt_val (pe_callC c__law_two_right hr (by rfl) passL (pa_cons (pv 5) (pa_cons (pv 4) pa_nil))))) (pw_or1 (pt_not (pt_val (pe_callG c__law_near_right hr hgd (by rfl) passL (pa_cons (pv 2) (pa_cons (pv 4) pa_nil)))))))).pt (pss_one (ps_ret pe_bl)) pss_nil))))))) (pss_cons (ps_set (i := 6) nd rfl (by first | exact Or.inl rfl | exact Or.inr rfl) (pe_callTy (r := rTupleS K) call_tupleS (by rfl) B.tuple (by decide +kernel) (pa_cons (pe_lc (own := [("at", 1)]) (g := gName 1) (tt := tYes) rfl nd (pi_range1 (by rfl) B.range (pa_cons pe_int pa_nil)) (blkOk_by (N := N_law) (sc := defScope s_law) (by decide +kernel)) (fun _ _ _ _ _ => pg_name (i := 1) nd rfl (by first | exact Or.inl rfl | exact Or.inr rfl)) (fun _ _ _ _ _ => pts_nil) (fun _ _ _ _ _ => (pe_tup (pa_cons (pv 1) (pa_cons (pv 1) pa_nil))))) pa_nil))) (pss_cons (ps_set (i := 7) nd rfl (by first | exact Or.inl rfl | exact Or.inr rfl) (pe_lst (pa_cons (pe_callC c_is_stand hr (by rfl) passL (pa_cons (pe_tup (pa_cons (pv 6) (pa_cons pe_int pa_nil))) pa_nil)) (pa_cons (pe_callC c_is_stand hr (by rfl) passL (pa_cons (pe_tup (pa_cons (pe_op (r := rAddG K) op_addG (pv 6) (pe_tup (pa_cons (pe_tup (pa_cons pe_int (pa_cons pe_int pa_nil))) pa_nil))) (pa_cons pe_int pa_nil))) pa_nil)) (pa_cons (pe_callC c_judged hr (by rfl) passL (pa_cons (pe_tup (pa_cons (pv 6) (pa_cons pe_int pa_nil))) (pa_cons (pe_tup (pa_cons (pe_slice (r := rSlG K) sl_G (pv 6) po_none (po_some pe_int)) (pa_cons pe_int pa_nil))) pa_nil))) pa_nil))))) (pss_one (ps_ret (pe_cmpR (r := rEqD K) (op_eqD hu64) (pv 7) (pe_lst (pa_cons pe_bl (pa_cons pe_bl (pa_cons (pe_tup (pa_cons pe_str (pa_cons pe_int pa_nil))) pa_nil)))) (nomark _))))))), ?_⟩
    obtain ⟨a, ns, rfl, hln, hT, hS, q⟩ := h
    have hmT : (PT, lamQ) ∈ [(PT, lamQ)] := List.mem_singleton.mpr rfl
    have t0 : Tabs [(PT, lamQ)] H := tabs_new hT
    have rs0 : Dp K (hid (fun b => b = PT) H) (.ref a) (.list (ns.map .int)) := .lst (sql_hid hT hS) (dpa_ints ns)
    have a0 : Ax (fun b => b = PT) (Tabs [(PT, lamQ)]) (nt (hid (fun b => b = PT) H)) H := (Ax.startJ (fun b hb => by rw [hb, hT]; exact fun z => by cases z) tabs_up t0).nt
    have rs := Dpn rs0
    have hG : NoT (nt (hid (fun b => b = PT) H)) := nt_no
    generalize nt (hid (fun b => b = PT) H) = G at a0 rs hG
    clear rs0 hS t0
    have hl0 : (ns.map PyData.int).length = ns.length := List.length_map _
    refine y_forR (K := K) (n := max 1 (min 5 (ns.map PyData.int).length)) a0 (by walk_at "eda") (by omega) (fun i σ' H' => ∃ x1 x2 x3 x4 x5, σ' = [some (.ref a), x1, x2, x3, x4, x5, none, none]) (fun H1 a1 => ⟨_, _, _, _, _, rfl⟩) (fun i σ' H' hi a1 ⟨x1, x2, x3, x4, x5, e⟩ => ?_) (fun σ' H' a1 ⟨x1, x2, x3, x4, x5, e⟩ => ?_)
    · subst e
      have ri : Dp K G (.int (i : Int)) (.int (Int.ofNat i)) := .int _
      show tSeq _ _ _ [some (.ref a), some (.int (i : Int)), x2, x3, x4, x5, none, none] H'
      refine y_dice (ns := ns) (k := i) a1 (by walk_at "eda") (by omega) fun p H1 H2 b1 e2 hp hd => ?_
      have hPp : PT ≠ p := fun z => by
        obtain ⟨ps, h1, _⟩ := b1.j _ hmT
        rw [show (PT, lamQ).1 = p from z, hp] at h1
        cases h1
      have b2 := ax_dice b1 e2 hp hd
      have dj := dj_jd (T := [(PT, lamQ)]) (fun q hq => by rw [List.mem_singleton.mp hq]) hPp
      have tj := tj_jd (p := p) hmT
      show tFor _ _ _ _ [some (.ref a), some (.int (i : Int)), some (.ref p), x3, x4, x5, none, none] H2
      refine x_forR (K := K) (n := 4) b2 (by walk_at "eda") (by decide) (fun i2 σ' H' => ∃ x3 x4 x5, σ' = [some (.ref a), some (.int (i : Int)), some (.ref p), x3, x4, x5, none, none]) (fun H1 a1 => ⟨_, _, _, rfl⟩) (fun i2 σ' H3 hi2 b3 ⟨x3, x4, x5, e⟩ => ?_) (fun σ' H3 b3 ⟨x3, x4, x5, e⟩ => ?_)
      · subst e
        show tSeq _ _ _ [some (.ref a), some (.int (i : Int)), some (.ref p), some (.int (i2 : Int)), x4, x5, none, none] H3
        refine m_unL b3 (en_callD dj rfl (ds := []) eda_nil rfl) (fun d ⟨s, t, e, _⟩ => ⟨_, _, e⟩) fun v1 v2 H4 d1 d2 b4 eG ⟨s, t, e, hs, ht⟩ r1 r2 => ?_
        have e1 : d1 = encS s := (List.cons.inj (PyData.list.inj e)).1
        have e2 : d2 = encS t := (List.cons.inj (List.cons.inj (PyData.list.inj e)).2).1
        subst e1 e2
        replace b4 := b4.nt
        replace r1 := Dpn r1
        replace r2 := Dpn r2
        replace eG : Ex G (nt (hid (MD PT p) H4)) := fun b o h => nt_of (eG b o h) fun ps e => hG b ps (by rw [h, e])
        have hG4 : NoT (nt (hid (MD PT p) H4)) := nt_no
        generalize nt (hid (MD PT p) H4) = G4 at b4 r1 r2 eG hG4
        have hst : Dr s ∧ Dr t := ⟨hs, ht⟩
        have hts : Dr t ∧ Dr s := ⟨ht, hs⟩
        show tIfS _ _ _ _ [some (.ref a), some (.int (i : Int)), some (.ref p), some (.int (i2 : Int)), some v1, some v2, none, none] H4
        refine z_or (K := K) b4 (EvB.is (eb_not (et_tst (ed_call (eda_cons (ed_var rfl r1) (eda_cons (ed_var rfl r2) eda_nil)) ⟨_, _, rfl, hst, rfl⟩))) rfl) fun H5 b5 => ?_
        refine z_or (K := K) b5 (EvB.is (eb_not (et_tst (ed_call (eda_cons (ed_var rfl r2) (eda_cons (ed_var rfl r1) eda_nil)) ⟨_, _, rfl, hts, rfl⟩))) rfl) fun H6 b6 => ?_
        refine ⟨_, rfl, _, rfl, MD PT p, JD [(PT, lamQ)] p, G4, p, v1, s, rfl, b6, hG4, dj, tj, r1, hs, fun H7 b7 => ⟨true, rfl, ?_⟩⟩
        exact ⟨⟨⟨b7.x.tk, eG.trans b7.x.ex⟩, b7.j, b7.u⟩, _, _, _, rfl⟩
      · subst e
        exact ⟨ax_back b3, _, _, _, _, _, rfl⟩
    · subst e
      have hLm : (List.range 20).map (fun i : Nat => PyData.tuple [.int (i : Int), .int (i : Int)]) = L20.map encP := rfl
      refine y_asg (K := K) (d := .tuple (L20.map encP)) a1 (EvD.is (ed_cb (eda_cons (EvD.is (ed_lcR (n := 20) (fun i : Nat => PyData.tuple [.int (i : Int), .int (i : Int)]) (eda_cons (EvD.is ed_int rfl) eda_nil) (by decide) fun i hi => ?_) (congrArg PyData.list hLm)) eda_nil) rc_tupleL) rfl) fun vl H2 a2 eG rl => ?_
      · refine lct_name (fun _ => rfl) fun x H1 e1 rx => ⟨?_, fun _ => ?_⟩
        · exact fun M H1 e Q q => q H1 (Ex.refl H1)
        · walk_at "ed"
      generalize hid (fun b => b = PT) H2 = G2 at a2 rl
      show tSeq _ _ _ [some (.ref a), x1, x2, x3, x4, x5, some vl, none] H2
      have hlen : (L20.map encP).length = 20 := rfl
      refine y_asg (K := K) (d := .list [.bool true, .bool false, .tuple [.str "ahead", .int 18]]) a2 (ed_lst (eda_cons (EvD.is (ed_call (eda_cons (ed_tup (eda_cons (ed_var rfl rl) (eda_cons ed_int eda_nil)) (by show (2 : Nat) ≤ 100000; decide)) eda_nil) ⟨_, rfl, rfl⟩) (congrArg PyData.bool l20_a)) (eda_cons (EvD.is (ed_call (eda_cons (ed_tup (eda_cons (ed_op (ed_var rfl rl) (ed_tup (eda_cons (ed_tup (eda_cons ed_int (eda_cons ed_int eda_nil)) (by show (2 : Nat) ≤ 100000; decide)) eda_nil) (by show (1 : Nat) ≤ 100000; decide)) (rg_catT (by rw [hlen]; show (21 : Nat) ≤ 100000; decide))) (eda_cons ed_int eda_nil)) (by show (2 : Nat) ≤ 100000; decide)) eda_nil) ⟨_, rfl, rfl⟩) (congrArg PyData.bool l20_d)) (eda_cons (EvD.is (ed_callX (ds := [encS (L20, 25), encS (L20.take 19, 18)]) (eda_cons (ed_tup (eda_cons (ed_var rfl rl) (eda_cons ed_int eda_nil)) (by show (2 : Nat) ≤ 100000; decide)) (eda_cons (EvD.is (ed_tup (eda_cons (ed_slT (ed_var rfl rl) eo_no (eo_part ed_int)) (eda_cons ed_int eda_nil)) (by show (2 : Nat) ≤ 100000; decide)) l20_f) eda_nil)) (.inr ⟨_, _, rfl, ⟨l20_b, l20_c⟩, rfl⟩)) l20_e) eda_nil))) (by show (3 : Nat) ≤ 100000; decide)) fun vt H3 a3 eG3 rt => ?_
      have sg : SeqAt.shaped (.list [.bool true, .bool false, .tuple [.str "ahead", .int 18]]) = true := (sh_lst (sh_cons sh_bl (sh_cons sh_bl (sh_cons (sh_tup (sh_cons (sh_str (by decide +kernel)) (sh_cons sh_int sh_nil))) sh_nil)))).ok
      show tRet _ _ [some (.ref a), x1, x2, x3, x4, x5, some vl, some vt] H3
      refine x_ret (K := K) (d := .bool true) a3 (EvD.is (ed_op (ed_var rfl rt) (ed_lst (eda_cons ed_bl (eda_cons ed_bl (eda_cons (ed_tup (eda_cons ed_str (eda_cons ed_int eda_nil)) (by show (2 : Nat) ≤ 100000; decide)) eda_nil))) (by show (3 : Nat) ≤ 100000; decide)) (rd_eq sg sg)) ?_) fun v' H' _ rd => ?_
      · rw [eqv_lst, eqva_cons, eqva_cons, eqva_cons, eqva_nil, eqv_bool, eqv_bool, eqv_tup, eqva_cons, eqva_cons, eqva_nil, eqv_str, eqv_int]
        simp
      · cases rd
        exact q H'
end
end K95
end
section
set_option Elab.async false
set_option linter.all false
set_option maxRecDepth 100000
set_option maxHeartbeats 0
/-! The head's facts: read by one Hook at the end of the top; the class with an __init__ of its own too. -/
namespace K95
open PySem PySem.Spec PyProof.Rows L2
def iniS : Stmt := match top 8 with
  | .ClassDef _ _ _ b _ _ _ _ _ _ _ => b.getD 0 (.Pass ⟨0, 0, 0, 0⟩)
  | s => s
def dD (x : Str) (i : Nat) : He.DefD := ⟨(x, none), x, x, defArgs (top i), defBody (top i), defScope (top i), [], []⟩
def fn : List He.DefD := [dD "is_integer" 15, dD "is_within" 16, dD "is_branch" 20, dD "is_stand" 23, dD "require_stand" 24, dD "pairs_up_to" 25, dD "cut" 26, dD "begin_at" 27, dD "limits_in" 28,
  dD "shared_in" 29, dD "require_stands" 30, dD "shared_place" 31, dD "judged" 32, dD "is_later" 33, dD "_law_dice" 35, dD "_law_roll" 36, dD "_law_one_of" 37, dD "_law_met" 38, dD "_law_more" 39,
  dD "_law_two" 40, dD "_law_under" 41, dD "_law_shared" 42, dD "_law_two_right" 43, dD "_law_near_right" 44, dD "law" 45]
def clss : List Str := ["InvalidText", "InvalidCommand", "InvalidStore", "InvalidOperation", "ParseError", "InvalidTime", "InvalidNumber", "TooMany", "UnknownName", "BadLetters", "PowerLost", "Refused"]
def defs : List Str := ["is_integer", "is_within", "is_branch", "is_stand", "require_stand", "pairs_up_to", "cut", "begin_at", "limits_in", "shared_in", "require_stands", "shared_place", "judged", "is_later", "_law_dice", "_law_roll", "_law_one_of", "_law_met", "_law_more", "_law_two", "_law_under", "_law_shared", "_law_two_right", "_law_near_right", "law"]
def fa : List He.Fa := clss.map .glo ++ defs.map .glo ++ [.free "len", .free "isinstance", .free "int", .free "bool", .free "tuple", .free "list", .free "zip", .free "all", .free "range", .free "max", .free "min", .free "abs", .free "repr", .free "super", .int "MAX_BRANCH" 20, .int "MAX_PLACE" 1000000000000, .int "MAX_STAND" 1000000000000,
  .exc "InvalidOperation", .noat "InvalidNumber" "value",
  .exm "InvalidOperation" "InvalidText" false, .exm "InvalidOperation" "InvalidCommand" false, .exm "InvalidOperation" "InvalidStore" false, .exm "InvalidOperation" "InvalidOperation" true,
  .exm "InvalidNumber" "InvalidText" false, .exm "InvalidNumber" "InvalidCommand" false, .exm "InvalidNumber" "InvalidStore" false, .exm "InvalidNumber" "InvalidOperation" false, .exm "InvalidNumber" "ParseError" false, .exm "InvalidNumber" "InvalidTime" false, .exm "InvalidNumber" "InvalidNumber" true]
def tf : List He.Defn := [("_law_near_right", none)]
abbrev NIni : Str × Option Str := ("InvalidNumber", some "__init__")
abbrev bmA : List Value := [.type "ArithmeticError", .type "Exception", .type "BaseException", .type "object"]
def fileB (vs : Array Value) : Bool := match vs[2]? with
  | some (Value.str f _) => decide (PySem.Challenge.pw_deedline_k95_whole_stands_judged_by_thei.main.file = f)
  | _ => false
def iniB (K : PySem.W.Frag) : Bool := match K.lookup (He.fAd K NIni) with
  | some ⟨_, _, .func fd, _⟩ => (match fd.code, fd.closure, fd.defaults with
    | .ref c, [(_, cc)], .none => PySem.W.codeIn K (.ref c) "InvalidNumber.__init__" && ((match K.lookup c with
      | some ⟨_, _, .fields vs, _⟩ => fileB vs
      | _ => false) && (match K.lookup cc with
      | some ⟨_, _, .cell (some (.ref D)), _⟩ => decide (D = He.ga K "InvalidNumber")
      | _ => false))
    | _, _, _ => false)
  | _ => false
def ex (K : PySem.W.Frag) : Bool :=
  let C := He.ga K "InvalidNumber"
  [PySem.W.excInitIn K C bmA "ArithmeticError.__new__", PySem.W.excOver K C bmA, He.eqO (PySem.W.findIn K (.ref C) "__setattr__") (some (some (.builtin "object.__setattr__"))), He.eqO (PySem.W.takerIn K C "value") (some none), PySem.W.hasDictIn K C,
    He.eqO (PySem.W.findIn K (.ref C) "__init__") (some (some (.ref (He.fAd K NIni)))), decide (PySem.W.typeIn K (.ref (He.fAd K NIni)) = some (.type "function")), PySem.W.keepIn K (.ref C), decide (PySem.W.subIn K (.ref C) (.type "BaseException") = some true),
    decide (PySem.W.subIn K (.ref C) (.type "ArithmeticError") = some true), decide (PySem.W.typeIn K (.ref C) = some (.type "type")), He.eqO (PySem.W.ks_superIn K C C "__init__") (some (some (.builtin "ArithmeticError.__init__"))), He.eqO (PySem.W.nsIn K cStatics "thirdparty.any") (some none),
    decide (PySem.W.mroIn K C (.ref C) = some true), xfB K C, iniB K].all id
abbrev FnZ : Type := Option (Str × Str × Arguments × FuncBody × Scope × Addr × List Str × Addr)
def fnZ (K : PySem.W.Frag) (p : Str × Option Str) : FnZ := match K.lookup (He.fAd K p) with
  | some ⟨_, _, .func fd, _⟩ => some (fd.name, fd.qualname, fd.params, fd.body, fd.scope, fd.globals, fd.closure.map (·.1), fd.builtins)
  | _ => none
def valZ : FnZ := some ("__init__", "InvalidNumber.__init__", defArgs iniS, .stmts (defBody iniS), defScope iniS, mainGlobals, ["__class__"], builtinsNs)
def frZ (g : Addr → Option Obj) : PySem.W.Frag := He.frT g (He.asD g 4 ++ [cStatics])
def obsZ (g : Addr → Option Obj) : He.AlT × Bool × FnZ := (He.obsT fa fn [] (frZ g), ex (frZ g) && He.tabsB g tf (frZ g), fnZ (frZ g) NIni)
/-- what the end of the top says -/
structure SaysZ (h : Heap) (K : PySem.W.Frag) : Prop where
  d : He.SaysD fa fn K
  ex : ex K = true
  tab : He.tabsB h.get? tf K = true
  none : ∀ a o, h.get? a = some o → He.emptyTab o = true → K.lookup a = .none
  ini : fnZ K NIni = valZ
def hk : PySem.W.Hook where
  α := He.AlT × Bool × FnZ
  obs := fun s => obsZ s.heap.get?
  val := fun w => (He.valT fn [] w, true, valZ)
  says := fun w h => ∃ K : PySem.W.Frag, K.In h ∧ ∃ h0 : Heap, SaysZ h0 K ∧ ∀ a o, h0.get? a = some o → h.get? a = some o
  of := fun w h e => ⟨_, He.frT_in, h.heap, ⟨congrArg (fun z : He.AlT × Bool × FnZ => z.1.1) e, (He.ba (congrArg (fun z : He.AlT × Bool × FnZ => z.2.1) e)).1, (He.ba (congrArg (fun z : He.AlT × Bool × FnZ => z.2.1) e)).2, fun a o h1 h2 => He.frT_none h1 h2, congrArg (fun z : He.AlT × Bool × FnZ => z.2.2) e⟩, fun a o z => z⟩
  keeps := fun _ _ _ ⟨K, hK, h0, c, k0⟩ k => ⟨K, PySem.W.Frag.In.keeps hK k, h0, c, fun a o z => k _ _ (k0 a o z)⟩
def ob (s : PySem.W.SharedT) : He.AlT × Bool × FnZ := obsZ (HandSHeadRun.getT s)
theorem ob_eq (s : PySem.W.SharedT) : ob s = hk.obs s.abs := by
  have e : HandSHeadRun.getT s = s.abs.heap.get? := funext (HandSHeadRun.getT_eq s)
  show obsZ (HandSHeadRun.getT s) = obsZ s.abs.heap.get?
  rw [e]
end K95
end
section
set_option Elab.async false
set_option linter.all false
set_option maxRecDepth 100000
set_option maxHeartbeats 0
/-! The top's run, in the kernel. -/
namespace K95
open PySem PySem.Spec PyProof.Rows L2
def names1 : List PySem.Str := ["DeedError", "InvalidText", "InvalidCommand", "InvalidStore", "InvalidOperation", "ParseError", "InvalidTime", "InvalidNumber", "TooMany", "UnknownName", "BadLetters", "PowerLost", "Refused", "is_integer", "is_within", "MAX_BRANCH", "MAX_PLACE", "is_branch", "MAX_STAND", "is_stand"]
def names2 : List PySem.Str := ["require_stand", "pairs_up_to", "cut", "begin_at", "limits_in", "shared_in", "require_stands", "shared_place", "judged", "is_later", "_law_dice", "_law_roll", "_law_one_of", "_law_met", "_law_more", "_law_two", "_law_under", "_law_shared", "_law_two_right", "_law_near_right"]
def names : List PySem.Str := names1 ++ names2
abbrev R : PySem.W.OpenRow := PySem.W.OpenLaw.row PySem.Challenge.rw_deedline_k95_whole_stands_judged_by_thei
theorem run (w : World) : HandSHeadRun.RunEq R (PySem.W.view R.prog [45]) hk ob 8000 names w := by
  intro os
  kernel_rfl
end K95
end
section
set_option Elab.async false
set_option linter.all false
set_option maxRecDepth 100000
set_option maxHeartbeats 4000000
/-! From the head's facts: the class with an __init__ of its own. -/
namespace K95
open PySem PySem.Spec PyProof.Rows L2
theorem ini_fn {K : PySem.W.Frag} {C : Addr} (hC : He.ga K "InvalidNumber" = C) (e : fnZ K NIni = valZ) (b : iniB K = true) :
    ∃ (oc : Value) (od : Option Addr) (kV doc pm ct : Value) (an : Option Addr) (osl : Array (Option Value)) (cc cda : Addr) (ccl cl : Value) (cdd cld : Option Addr) (vs : Array Value) (ccs csl : Array (Option Value)) (file : Str) (tf : Tok),
      K.lookup (He.fAd K NIni) = some ⟨oc, od, .func (PySem.W.ksFn "__init__" "InvalidNumber.__init__" (defArgs iniS) (defBody iniS) (defScope iniS) .none kV doc pm an (.ref cda) ct cc), osl⟩ ∧ PySem.W.codeIn K (.ref cda) "InvalidNumber.__init__" = true ∧
        K.lookup cda = some ⟨ccl, cdd, .fields vs, ccs⟩ ∧ vs[2]? = some (.str file tf) ∧ PySem.Challenge.pw_deedline_k95_whole_stands_judged_by_thei.main.file = file ∧ K.lookup cc = some ⟨cl, cld, .cell (some (.ref C)), csl⟩ := by
  unfold fnZ at e
  unfold iniB at b
  cases q : K.lookup (He.fAd K NIni) with
  | none =>
    rw [q] at b
    cases b
  | some o =>
    obtain ⟨oc, od, dt, osl⟩ := o
    rw [q] at e b
    cases dt with
    | func fd =>
      obtain ⟨n1, n2, n3, n4, n5, n6, n7, n8, n9, n10, n11, n12, n13, n14, n15⟩ := fd
      have e2 : (some (n1, n2, n3, n4, n5, n6, n7.map (·.1), n15) : FnZ) = some (("__init__" : Str), ("InvalidNumber.__init__" : Str), defArgs iniS, FuncBody.stmts (defBody iniS), defScope iniS, mainGlobals, [("__class__" : Str)], builtinsNs) := e
      simp only [Option.some.injEq, Prod.mk.injEq] at e2
      obtain ⟨h1, h2, h3, h4, h5, h6, h7, h8⟩ := e2
      subst h1 h2 h3 h4 h5 h6 h8
      cases n13 with
      | ref cda =>
        cases n7 with
        | nil => cases h7
        | cons p r =>
          cases r with
          | cons _ _ => exact absurd (congrArg List.length h7) (by simp)
          | nil =>
            obtain ⟨pn, cc⟩ := p
            have e3 : pn = "__class__" := (List.cons.inj h7).1
            subst e3
            cases n8 with
            | none =>
              have b2 : (PySem.W.codeIn K (.ref cda) "InvalidNumber.__init__" && ((match K.lookup cda with
                | some ⟨_, _, .fields vs, _⟩ => fileB vs
                | _ => false) && (match K.lookup cc with
                | some ⟨_, _, .cell (some (.ref D)), _⟩ => decide (D = He.ga K "InvalidNumber")
                | _ => false))) = true := b
              obtain ⟨b3, b4⟩ := He.ba b2
              obtain ⟨b5, b6⟩ := He.ba b4
              cases q2 : K.lookup cda with
              | none =>
                rw [q2] at b5
                cases b5
              | some o2 =>
                obtain ⟨ccl, cdd, d2, ccs⟩ := o2
                rw [q2] at b5
                cases d2 with
                | fields vs =>
                  have b7 : fileB vs = true := b5
                  unfold fileB at b7
                  cases q3 : vs[2]? with
                  | none =>
                    rw [q3] at b7
                    cases b7
                  | some v =>
                    rw [q3] at b7
                    cases v with
                    | str file tf =>
                      cases q4 : K.lookup cc with
                      | none =>
                        rw [q4] at b6
                        cases b6
                      | some o4 =>
                        obtain ⟨cl, cld, d4, csl⟩ := o4
                        rw [q4] at b6
                        cases d4 with
                        | cell u =>
                          cases u with
                          | none => cases b6
                          | some u =>
                            cases u with
                            | ref D =>
                              have b8 : D = He.ga K "InvalidNumber" := of_decide_eq_true b6
                              rw [hC] at b8
                              subst b8
                              exact ⟨oc, od, n9, n10, n11, n14, n12, osl, cc, cda, ccl, cl, cdd, cld, vs, ccs, csl, file, tf, rfl, b3, q2, q3, of_decide_eq_true b7, q4⟩
                            | _ => cases b6
                        | _ => cases b6
                    | _ => cases b7
                | _ => cases b5
            | _ => cases b
      | _ => cases b
    | _ => cases b
abbrev PW : Program := PySem.Challenge.pw_deedline_k95_whole_stands_judged_by_thei
section
variable {K : PySem.W.Frag} {h h0 : Heap} {mg : Str → Option Value} (X : K.In h) (G : h.Ns mainGlobals mg) (c : SaysZ h0 K)
include X G c
theorem supF_of : SupX.SupF PW K mg "InvalidNumber" "value" "ArithmeticError" "ArithmeticError.__new__" "ArithmeticError.__init__" bmA (He.ga K "InvalidNumber") (He.fAd K NIni) ∧ XfC K (He.ga K "InvalidNumber") := by
  have e := c.ex
  obtain ⟨q1, e⟩ := He.ba (show (_ && _) = true from e)
  obtain ⟨q2, e⟩ := He.ba (show (_ && _) = true from e)
  obtain ⟨q3, e⟩ := He.ba (show (_ && _) = true from e)
  obtain ⟨q4, e⟩ := He.ba (show (_ && _) = true from e)
  obtain ⟨q5, e⟩ := He.ba (show (_ && _) = true from e)
  obtain ⟨q6, e⟩ := He.ba (show (_ && _) = true from e)
  obtain ⟨q7, e⟩ := He.ba (show (_ && _) = true from e)
  obtain ⟨q8, e⟩ := He.ba (show (_ && _) = true from e)
  obtain ⟨q9, e⟩ := He.ba (show (_ && _) = true from e)
  obtain ⟨q10, e⟩ := He.ba (show (_ && _) = true from e)
  obtain ⟨q11, e⟩ := He.ba (show (_ && _) = true from e)
  obtain ⟨q12, e⟩ := He.ba (show (_ && _) = true from e)
  obtain ⟨q13, e⟩ := He.ba (show (_ && _) = true from e)
  obtain ⟨q14, e⟩ := He.ba (show (_ && _) = true from e)
  obtain ⟨q15, e⟩ := He.ba (show (_ && _) = true from e)
  obtain ⟨q16, e⟩ := He.ba (show (_ && _) = true from e)
  obtain ⟨oc, od, kV, doc, pm, ct, an, osl, cc, cda, ccl, cl, cdd, cld, vs, ccs, csl, file, tf, k1, k2, k3, k4, k5, k6⟩ := ini_fn rfl c.ini q16
  refine ⟨⟨PySem.F.excBase_ArithmeticError, PySem.W.kxs_ArithmeticError, PySem.F.store_ArithmeticError, He.glo_ok X G (c.d.fact 6 (f := .glo "InvalidNumber") rfl), q1, q2, He.eqO_ok q3, He.eqO_ok q4, q5, He.eqO_ok q6, of_decide_eq_true q7, q8, of_decide_eq_true q9, of_decide_eq_true q10, of_decide_eq_true q11, He.eqO_ok q12, He.eqO_ok q13, of_decide_eq_true q14,
    He.free_ok X G (c.d.fact 50 (f := .free "super") rfl), by decide +kernel, ?_⟩, xfB_ok q15⟩
  exact ⟨oc, od, _, _, _, kV, doc, pm, ct, an, osl, cc, cda, _, _, _, _, _, _, _, _, _, _, _, ccl, cl, cdd, cld, vs, ccs, csl, file, tf, k1, k2, rfl, rfl, fun s u v => .of_eq rfl, rfl, rfl, rfl, rfl, rfl, rfl, k3, k4, by rw [k5]; exact beq_self_eq_true _, k6⟩
end
end K95
end
section
set_option Elab.async false
set_option linter.all false
set_option maxRecDepth 100000
set_option maxHeartbeats 2000000
/-! The end of a law that is told where no repr is under way, with one table of code objects. -/
namespace DL
open PySem PySem.Spec PyProof.Rows L2 Evl LamX
section
variable {P : Program} {w : World} {K : PySem.W.Frag} {mg mb : Str → Option Value} {CX : CXT} {k : Nat} {fa a c PT : Addr} {x : Str} {sp : Sp} {s₁ : Shared} {vs : List Value} {ns : List Int}
theorem law_end (KX : K.In s₁.heap) (hns : s₁.heap.Ns mainGlobals mg) (hb : s₁.heap.Ns builtinsNs mb) (hbb : ∀ x : Str, x ≠ "__name__" → mb x = bootBuiltins x) (hlim : s₁.heap.NoLimit) (hg : s₁.gens = #[])
    (hT : s₁.heap.get? PT = some { cls := .none, data := .fields #[] }) (nT : K.lookup PT = none) (hC : PySem.W.CodeHd s₁.heap c PT)
    (hbm : ∃ (bm : Addr) (ob : Obj), mg "__builtins__" = some (.ref bm) ∧ bm ≠ builtinsNs ∧ s₁.heap.get? bm = some ob ∧ ob.cls = .type "module" ∧ ob.dict = some builtinsNs ∧ ob.data = .plain)
    (ha : s₁.heap.get? a = some { cls := .type "list", data := .seq vs.toArray }) (hi : IntsAre vs ns) (hl : ns.length ≤ sizeLine) (hr : Room k callerA)
    (F : ∀ base : Heap, K.In base → base.Ns mainGlobals mg → TabB base mg c PT → ∃ fd, FnG P w K mg base CX k fa fd [x] sp ∧ Binds K fd [x] [])
    (hsp : ∀ H : Hp, H PT = some (.tbl #[]) → SqL K H a (ns.map V.int) → sp [.ref a] H (fun v _ => v = .bl true) fun _ _ _ => False)
    (hCX : ∀ H e s', CX [] H s₁ (fun _ _ _ => False) e s' → False) :
    codeAny (model P w) callerA (.call (.ref fa) ⟨[.ref a], []⟩) (fun r s' => r = .ok (.ret (.bool true)) ∧ OldK s₁.heap s'.heap ∧ s'.os = s₁.os ∧ AllBare s'.gens) s₁ := by
  have offT : ∀ {b : Addr} {o : Obj}, s₁.heap.get? b = some o → o.data ≠ .fields #[] → b ≠ PT := fun {b o} e h z => by
    rw [z, hT] at e
    cases e
    exact h rfl
  have offL : ∀ {b : Addr} {o : Obj}, s₁.heap.get? b = some o → (∀ v n, o.data ≠ .seq v n) → b ≠ a := fun {b o} e h z => by
    rw [z, ha] at e
    cases e
    exact h _ _ rfl
  have aPT : a ≠ PT := offT ha fun z => by cases z
  obtain ⟨H, at_T, at_a, off⟩ : ∃ H : Hp, H PT = some (.tbl #[]) ∧ (K.lookup a = none → H a = some (.frz { cls := .type "list", data := .seq vs.toArray } (.lst (ns.map V.int)))) ∧ ∀ b, b ≠ PT → (b = a → K.lookup a ≠ none) → H b = none :=
    ⟨fun b => if b = PT then some (.tbl #[]) else if b = a ∧ K.lookup a = none then some (.frz { cls := .type "list", data := .seq vs.toArray } (.lst (ns.map V.int))) else none, if_pos rfl, fun q => (if_neg aPT).trans (if_pos ⟨rfl, q⟩), fun b h1 h2 => (if_neg h1).trans (if_neg fun z => h2 z.1 z.2)⟩
  have at_b : ∀ b u, H b = some u → (b = PT ∧ u = .tbl #[]) ∨ (b = a ∧ K.lookup a = none ∧ u = .frz { cls := .type "list", data := .seq vs.toArray } (.lst (ns.map V.int))) := fun b u e => by
    by_cases h1 : b = PT
    · rw [h1, at_T] at e
      exact .inl ⟨h1, (Option.some.inj e).symm⟩
    · by_cases h2 : b = a ∧ K.lookup a = none
      · rw [h2.1, at_a h2.2] at e
        exact .inr ⟨h2.1, h2.2, (Option.some.inj e).symm⟩
      · rw [off b h1 fun z q => h2 ⟨z, q⟩] at e
        cases e
  have hok : HOk P w H s₁.heap := fun b u e => by
    rcases at_b b u e with ⟨rfl, rfl⟩ | ⟨rfl, _, rfl⟩
    · exact hT
    · exact ⟨ha, by rw [List.length_map]; exact hl, vs, _, vals_ints hi, ha⟩
  have hS : SqL K H a (ns.map V.int) := by
    cases q : K.lookup a with
    | none => exact .inl (.inr ⟨_, at_a q⟩)
    | some o =>
      have e := KX a o q
      rw [ha] at e
      cases e
      exact .inr ⟨_, vs.toArray, _, q, rfl, rfl, rfl, by rw [List.size_toArray, hi.length]; exact hl, by simpa using vals_ints hi⟩
  have base : ∀ {b : Addr} {o : Obj}, s₁.heap.get? b = some o → b ≠ PT → (b = a → K.lookup a ≠ none) → (hidT s₁.heap H).get? b = some o := fun {b o} e h1 h2 => hidT_get e (off b h1 h2)
  have baseD : ∀ {b : Addr} {o : Obj}, s₁.heap.get? b = some o → (∀ v n, o.data ≠ .seq v n) → o.data ≠ .fields #[] → (hidT s₁.heap H).get? b = some o := fun {b o} e h1 h2 => base e (offT e h2) fun z => absurd z (offL e h1)
  have KB : K.In (hidT s₁.heap H) := fun b o e => base (KX b o e) (fun z => (by rw [z, nT] at e; cases e)) fun z q => (by rw [z, q] at e; cases e)
  have dN : ∀ {o : Obj} {es : Array DictEntry} {ep : Nat}, o.data = .dict es ep → (∀ v n, o.data ≠ .seq v n) ∧ o.data ≠ .fields #[] := fun {o es ep} d => ⟨fun v n z => (by rw [d] at z; cases z), fun z => (by rw [d] at z; cases z)⟩
  have NS : ∀ {b : Addr} {m : Str → Option Value}, s₁.heap.Ns b m → (hidT s₁.heap H).Ns b m := fun {b m} ⟨o, es, ep, e, d, r⟩ => ⟨o, es, ep, baseD e (dN d).1 (dN d).2, d, r⟩
  have hM : L2.Mod K mg (hidT s₁.heap H) := ⟨KB, NS hns, ⟨mb, NS hb, hbb⟩, let ⟨mc, h1, h2⟩ := hlim; ⟨mc, NS h1, h2⟩⟩
  have TB : TabB (hidT s₁.heap H) mg c PT := by
    refine ⟨?_, ?_, fun z => ?_⟩
    · obtain ⟨o, us, file, tf, flags, tg, inF, text, tt, e1, r1, r2, r3, r4⟩ := hC
      exact ⟨o, us, file, tf, flags, tg, inF, text, tt, baseD e1 (fun v n z => by rw [r2] at z; cases z) (fun z => by rw [r2] at z; cases z; simp at r3), r1, r2, r3, r4⟩
    · obtain ⟨bm, ob, b1, b2, b3, b4, b5, b6⟩ := hbm
      have n1 : ∀ v n, ob.data ≠ .seq v n := fun v n z => by rw [b6] at z; cases z
      have n2 : ob.data ≠ .fields #[] := fun z => by rw [b6] at z; cases z
      refine ⟨bm, ob, b1, b2, fun q => ?_, offT b3 n2, baseD b3 n1 n2, b4, b5, b6⟩
      obtain ⟨o, es, ep, e, d, _⟩ := hns
      rw [q, e] at b3
      cases b3
      rw [d] at b6
      cases b6
    · obtain ⟨o, es, ep, e, d, _⟩ := hns
      exact absurd z (offT e (dN d).2)
  have e0 : Env0 P w K mg (hidT s₁.heap H) callerA [] s₁ H := ⟨rfl, hM, fun b o e => of_hidT e, Nat.le_of_eq (hidT_size _ _), trivial, fun b hb => absurd (show b ∈ ([] : List Addr) from hb) (by simp), hok, .of_eq hg⟩
  obtain ⟨fd, Fg, hb2⟩ := F _ KB (NS hns) TB
  refine codeAny_mono (Fg.run callerA [] s₁ H ⟨[.ref a], []⟩ [.ref a] [.ref a] _ _ hr rfl e0 (hb2 s₁ [.ref a] KX rfl) (.cons rfl .nil) (hsp H at_T hS)) fun r s' h => ?_
  match r, h with
  | .error e, h => exact (hCX H e s' h).elim
  | .ok .next, h => exact False.elim h
  | .ok .brk, h => exact False.elim h
  | .ok .cont, h => exact False.elim h
  | .ok (.ret u), h =>
    obtain ⟨v, H', os, bare, un, hok', r', q⟩ := h
    obtain rfl : v = .bl true := q
    obtain rfl : u = Value.bool true := r'
    have keep : ∀ b o, b ≠ PT → s₁.heap.get? b = some o → s'.heap.get? b = some o := fun b o nb e => by
      cases q : H b with
      | none => exact un.keep b o e q (by intro z; exact absurd (show b ∈ ([] : List Addr) from z) (by simp)) (by simp)
      | some u =>
        rcases at_b b u q with ⟨z, _⟩ | ⟨z, _, rfl⟩
        · exact absurd z nb
        · obtain ⟨e1, _⟩ := hok b _ q
          obtain ⟨e2, _⟩ := hok' b _ (un.frzs b _ _ q)
          rw [e] at e1
          cases e1
          exact e2
    obtain ⟨more, z⟩ := un.tbls PT #[] at_T
    have grown : s'.heap.get? PT = some { cls := .none, data := .fields _ } := hok' PT _ z
    refine ⟨rfl, ⟨fun b o e => ?_, fun b o e => ?_⟩, os, bare⟩
    · by_cases hb : b = PT
      · subst hb
        rw [hT] at e
        cases e
        exact .inr (.inl ⟨(hC.tab hT).isCodeTable, rfl, #[], _, rfl, by rw [Array.empty_append]; exact grown⟩)
      · exact .inl (keep b o hb e)
    · by_cases hb : b = PT
      · exact ⟨_, by rw [hb]; exact grown⟩
      · exact ⟨o, keep b o hb e⟩
end
end DL
end
section
set_option Elab.async false
set_option linter.all false
set_option maxRecDepth 100000
set_option maxHeartbeats 8000000
/-! The walk over the head's facts; the law. -/
namespace K95
open PySem PySem.Spec PyProof.Rows L2 Evl DL LamX LamD
section
variable {K : PySem.W.Frag} {h h0 : Heap} {mg : Str → Option Value} (X : K.In h) (G : h.Ns mainGlobals mg) (c : SaysZ h0 K)
include X G c
theorem bi_of : Bi mg := ⟨He.free_ok X G (c.d.fact 38 (f := .free "isinstance") rfl), He.free_ok X G (c.d.fact 39 (f := .free "int") rfl), He.free_ok X G (c.d.fact 40 (f := .free "bool") rfl), He.free_ok X G (c.d.fact 41 (f := .free "tuple") rfl), He.free_ok X G (c.d.fact 42 (f := .free "list") rfl), He.free_ok X G (c.d.fact 37 (f := .free "len") rfl), He.free_ok X G (c.d.fact 43 (f := .free "zip") rfl), He.free_ok X G (c.d.fact 44 (f := .free "all") rfl), He.free_ok X G (c.d.fact 45 (f := .free "range") rfl), He.free_ok X G (c.d.fact 46 (f := .free "max") rfl), He.free_ok X G (c.d.fact 47 (f := .free "min") rfl), He.free_ok X G (c.d.fact 48 (f := .free "abs") rfl), He.free_ok X G (c.d.fact 49 (f := .free "repr") rfl)⟩
abbrev gC (K : PySem.W.Frag) : Addr := He.ga K "InvalidOperation"
abbrev gN (K : PySem.W.Frag) : Addr := He.ga K "InvalidNumber"
def csK (K : PySem.W.Frag) : List Addr := [He.ga K "InvalidText", He.ga K "InvalidCommand", He.ga K "InvalidStore", He.ga K "ParseError", He.ga K "InvalidTime", He.ga K "TooMany", He.ga K "UnknownName", He.ga K "BadLetters", He.ga K "PowerLost", He.ga K "Refused"]
theorem own_of : OwnE K mg "InvalidOperation" (gC K) := by
  obtain ⟨k1, k2, k3, k4⟩ := He.exc_ok (c.d.fact 54 (f := .exc "InvalidOperation") rfl)
  exact ⟨He.glo_ok X G (c.d.fact 3 (f := .glo "InvalidOperation") rfl), k1, k2, k3, k4⟩
theorem met_of : MetF K mg (gC K) (gN K) (csK K) := ⟨He.glo_ok X G (c.d.fact 0 (f := .glo "InvalidText") rfl), He.glo_ok X G (c.d.fact 1 (f := .glo "InvalidCommand") rfl), He.glo_ok X G (c.d.fact 2 (f := .glo "InvalidStore") rfl), He.glo_ok X G (c.d.fact 3 (f := .glo "InvalidOperation") rfl), He.glo_ok X G (c.d.fact 4 (f := .glo "ParseError") rfl), He.glo_ok X G (c.d.fact 5 (f := .glo "InvalidTime") rfl), He.glo_ok X G (c.d.fact 6 (f := .glo "InvalidNumber") rfl), He.glo_ok X G (c.d.fact 7 (f := .glo "TooMany") rfl), He.glo_ok X G (c.d.fact 8 (f := .glo "UnknownName") rfl), He.glo_ok X G (c.d.fact 9 (f := .glo "BadLetters") rfl), He.glo_ok X G (c.d.fact 10 (f := .glo "PowerLost") rfl), He.glo_ok X G (c.d.fact 11 (f := .glo "Refused") rfl), He.exm_ok (c.d.fact 56 (f := .exm "InvalidOperation" "InvalidText" false) rfl), He.exm_ok (c.d.fact 57 (f := .exm "InvalidOperation" "InvalidCommand" false) rfl), He.exm_ok (c.d.fact 58 (f := .exm "InvalidOperation" "InvalidStore" false) rfl), He.exm_ok (c.d.fact 59 (f := .exm "InvalidOperation" "InvalidOperation" true) rfl), He.exm_ok (c.d.fact 60 (f := .exm "InvalidNumber" "InvalidText" false) rfl), He.exm_ok (c.d.fact 61 (f := .exm "InvalidNumber" "InvalidCommand" false) rfl), He.exm_ok (c.d.fact 62 (f := .exm "InvalidNumber" "InvalidStore" false) rfl), He.exm_ok (c.d.fact 63 (f := .exm "InvalidNumber" "InvalidOperation" false) rfl), He.exm_ok (c.d.fact 64 (f := .exm "InvalidNumber" "ParseError" false) rfl), He.exm_ok (c.d.fact 65 (f := .exm "InvalidNumber" "InvalidTime" false) rfl), He.exm_ok (c.d.fact 66 (f := .exm "InvalidNumber" "InvalidNumber" true) rfl), (supF_of X G c).2, He.noat_ok (c.d.fact 55 (f := .noat "InvalidNumber" "value") rfl)⟩
abbrev pT : He.Defn := ("_law_near_right", none)
theorem whole {w : World} {base : Heap} (TB : TabB base mg (He.cT K pT).1 (He.cT K pT).2) : CalG PW w K mg base "law" 13 ["script"] (spLaw K (He.cT K pT).2) := by
  have B := bi_of X G c
  have oI := own_of X G c
  have sF := (supF_of X G c).1
  have mF := met_of X G c
  obtain ⟨tB, hB⟩ := He.int_ok X G (c.d.fact 51 (f := .int "MAX_BRANCH" 20) rfl)
  obtain ⟨tP, hP⟩ := He.int_ok X G (c.d.fact 52 (f := .int "MAX_PLACE" 1000000000000) rfl)
  obtain ⟨tS, hS⟩ := He.int_ok X G (c.d.fact 53 (f := .int "MAX_STAND" 1000000000000) rfl)
  obtain ⟨d_is_integer, F_is_integer⟩ := c.d.def_ 0 (d := dD "is_integer" 15) rfl
  have g_is_integer := He.glo_ok X G (c.d.fact 12 (f := .glo "is_integer") rfl)
  obtain ⟨d_is_within, F_is_within⟩ := c.d.def_ 1 (d := dD "is_within" 16) rfl
  have g_is_within := He.glo_ok X G (c.d.fact 13 (f := .glo "is_within") rfl)
  obtain ⟨d_is_branch, F_is_branch⟩ := c.d.def_ 2 (d := dD "is_branch" 20) rfl
  have g_is_branch := He.glo_ok X G (c.d.fact 14 (f := .glo "is_branch") rfl)
  obtain ⟨d_is_stand, F_is_stand⟩ := c.d.def_ 3 (d := dD "is_stand" 23) rfl
  have g_is_stand := He.glo_ok X G (c.d.fact 15 (f := .glo "is_stand") rfl)
  obtain ⟨d_require_stand, F_require_stand⟩ := c.d.def_ 4 (d := dD "require_stand" 24) rfl
  have g_require_stand := He.glo_ok X G (c.d.fact 16 (f := .glo "require_stand") rfl)
  obtain ⟨d_pairs_up_to, F_pairs_up_to⟩ := c.d.def_ 5 (d := dD "pairs_up_to" 25) rfl
  have g_pairs_up_to := He.glo_ok X G (c.d.fact 17 (f := .glo "pairs_up_to") rfl)
  obtain ⟨d_cut, F_cut⟩ := c.d.def_ 6 (d := dD "cut" 26) rfl
  have g_cut := He.glo_ok X G (c.d.fact 18 (f := .glo "cut") rfl)
  obtain ⟨d_begin_at, F_begin_at⟩ := c.d.def_ 7 (d := dD "begin_at" 27) rfl
  have g_begin_at := He.glo_ok X G (c.d.fact 19 (f := .glo "begin_at") rfl)
  obtain ⟨d_limits_in, F_limits_in⟩ := c.d.def_ 8 (d := dD "limits_in" 28) rfl
  have g_limits_in := He.glo_ok X G (c.d.fact 20 (f := .glo "limits_in") rfl)
  obtain ⟨d_shared_in, F_shared_in⟩ := c.d.def_ 9 (d := dD "shared_in" 29) rfl
  have g_shared_in := He.glo_ok X G (c.d.fact 21 (f := .glo "shared_in") rfl)
  obtain ⟨d_require_stands, F_require_stands⟩ := c.d.def_ 10 (d := dD "require_stands" 30) rfl
  have g_require_stands := He.glo_ok X G (c.d.fact 22 (f := .glo "require_stands") rfl)
  obtain ⟨d_shared_place, F_shared_place⟩ := c.d.def_ 11 (d := dD "shared_place" 31) rfl
  have g_shared_place := He.glo_ok X G (c.d.fact 23 (f := .glo "shared_place") rfl)
  obtain ⟨d_judged, F_judged⟩ := c.d.def_ 12 (d := dD "judged" 32) rfl
  have g_judged := He.glo_ok X G (c.d.fact 24 (f := .glo "judged") rfl)
  obtain ⟨d_is_later, F_is_later⟩ := c.d.def_ 13 (d := dD "is_later" 33) rfl
  have g_is_later := He.glo_ok X G (c.d.fact 25 (f := .glo "is_later") rfl)
  obtain ⟨d__law_dice, F__law_dice⟩ := c.d.def_ 14 (d := dD "_law_dice" 35) rfl
  have g__law_dice := He.glo_ok X G (c.d.fact 26 (f := .glo "_law_dice") rfl)
  obtain ⟨d__law_roll, F__law_roll⟩ := c.d.def_ 15 (d := dD "_law_roll" 36) rfl
  have g__law_roll := He.glo_ok X G (c.d.fact 27 (f := .glo "_law_roll") rfl)
  obtain ⟨d__law_one_of, F__law_one_of⟩ := c.d.def_ 16 (d := dD "_law_one_of" 37) rfl
  have g__law_one_of := He.glo_ok X G (c.d.fact 28 (f := .glo "_law_one_of") rfl)
  obtain ⟨d__law_met, F__law_met⟩ := c.d.def_ 17 (d := dD "_law_met" 38) rfl
  have g__law_met := He.glo_ok X G (c.d.fact 29 (f := .glo "_law_met") rfl)
  obtain ⟨d__law_more, F__law_more⟩ := c.d.def_ 18 (d := dD "_law_more" 39) rfl
  have g__law_more := He.glo_ok X G (c.d.fact 30 (f := .glo "_law_more") rfl)
  obtain ⟨d__law_two, F__law_two⟩ := c.d.def_ 19 (d := dD "_law_two" 40) rfl
  have g__law_two := He.glo_ok X G (c.d.fact 31 (f := .glo "_law_two") rfl)
  obtain ⟨d__law_under, F__law_under⟩ := c.d.def_ 20 (d := dD "_law_under" 41) rfl
  have g__law_under := He.glo_ok X G (c.d.fact 32 (f := .glo "_law_under") rfl)
  obtain ⟨d__law_shared, F__law_shared⟩ := c.d.def_ 21 (d := dD "_law_shared" 42) rfl
  have g__law_shared := He.glo_ok X G (c.d.fact 33 (f := .glo "_law_shared") rfl)
  obtain ⟨d__law_two_right, F__law_two_right⟩ := c.d.def_ 22 (d := dD "_law_two_right" 43) rfl
  have g__law_two_right := He.glo_ok X G (c.d.fact 34 (f := .glo "_law_two_right") rfl)
  obtain ⟨d__law_near_right, F__law_near_right⟩ := c.d.def_ 23 (d := dD "_law_near_right" 44) rfl
  have g__law_near_right := He.glo_ok X G (c.d.fact 35 (f := .glo "_law_near_right") rfl)
  obtain ⟨d_law, F_law⟩ := c.d.def_ 24 (d := dD "law" 45) rfl
  have g_law := He.glo_ok X G (c.d.fact 36 (f := .glo "law") rfl)
  have c_is_integer := cal_is_integer (P := PW) (w := w) (base := base) B F_is_integer g_is_integer
  have c_is_within := cal_is_within (P := PW) (w := w) (base := base) B c_is_integer F_is_within g_is_within
  have c_is_branch := cal_is_branch (P := PW) (w := w) (base := base) B c_is_within hB hP F_is_branch g_is_branch
  have c_is_stand := cal_is_stand (P := PW) (w := w) (base := base) B c_is_within hS c_is_branch F_is_stand g_is_stand
  have c_pairs_up_to := cal_pairs_up_to (P := PW) (w := w) (base := base) B F_pairs_up_to g_pairs_up_to
  have c_begin_at := cal_begin_at (P := PW) (w := w) (base := base) B F_begin_at g_begin_at
  have c_limits_in := cal_limits_in (P := PW) (w := w) (base := base) B c_begin_at F_limits_in g_limits_in
  have c_shared_in := cal_shared_in (P := PW) (w := w) (base := base) B c_limits_in F_shared_in g_shared_in
  have c_require_stand := cal_require_stand (P := PW) (w := w) (base := base) oI c_is_stand F_require_stand g_require_stand
  have c_require_stands := cal_require_stands (P := PW) (w := w) (base := base) oI c_require_stand F_require_stands g_require_stands
  have c_shared_place := cal_shared_place (P := PW) (w := w) (base := base) oI c_require_stands c_shared_in F_shared_place g_shared_place
  have c_judged := cal_judged (P := PW) (w := w) (base := base) oI c_require_stands c_shared_in F_judged g_judged
  have c_is_later := cal_is_later (P := PW) (w := w) (base := base) oI c_require_stands c_shared_in F_is_later g_is_later
  have c_cut := cal_cut (P := PW) (w := w) (base := base) oI c_require_stand sF c_is_within c_pairs_up_to F_cut g_cut
  have c__law_roll := cal__law_roll (P := PW) (w := w) (base := base) B F__law_roll g__law_roll
  have c__law_dice := cal__law_dice (P := PW) (w := w) (base := base) B F__law_dice g__law_dice
  have c__law_one_of := cal__law_one_of (P := PW) (w := w) (base := base) B c__law_roll F__law_one_of g__law_one_of
  have c__law_more := cal__law_more (P := PW) (w := w) (base := base) B c__law_roll F__law_more g__law_more
  have c__law_two := cal__law_two (P := PW) (w := w) (base := base) B c__law_roll c__law_more F__law_two g__law_two
  have c__law_under := cal__law_under (P := PW) (w := w) (base := base) B F__law_under g__law_under
  have c__law_shared := cal__law_shared (P := PW) (w := w) (base := base) B c__law_under F__law_shared g__law_shared
  skip
  have c__law_two_right := cal__law_two_right (P := PW) (w := w) (base := base) B c__law_shared c_shared_place c_judged c_is_later c_cut c_is_stand F__law_two_right g__law_two_right
  obtain ⟨oc, od, dV, kV, doc, pm, an, cdM, ct, osl, eM, lkM, cdMi, _, _⟩ := F__law_met.ex
  subst eM
  have bM := F__law_met.bindsN (ps := ["call"]) fun _ _ _ _ _ _ us hl => match us, hl with | [_], _ => rfl
  have c__law_near_right := cal__law_near_right (P := PW) (w := w) (base := base) B c__law_one_of c_shared_place c_judged c_is_later c_cut c_is_stand mF g__law_met F__law_met.kp lkM cdMi bM TB F__law_near_right g__law_near_right fun oc od dV kV doc pm cdv ct an osl lk => by
    obtain ⟨oc2, od2, dV2, kV2, doc2, pm2, an2, cdv2, ct2, osl2, e2, lk2, cd2, _, _⟩ := F__law_near_right.ex
    subst e2
    rw [lk2] at lk
    have ecd : cdv2 = cdv := congrArg FuncData.code (Data.func.inj (congrArg Obj.data (Option.some.inj lk)))
    obtain ⟨cc, ec⟩ := He.codeIn_ref cd2
    subst ecd
    rw [ec]
    exact congrArg Value.ref (He.codeOf_eq (p := pT) lk2 ec).symm
  exact cal_law (PT := (He.cT K pT).2) B c__law_dice c__law_two c__law_two_right c__law_near_right c_judged c_is_stand F_law g_law
end
end K95
end
set_option Elab.async false
set_option linter.all false
set_option maxRecDepth 100000
set_option maxHeartbeats 8000000
/-! The end. -/
open PySem PySem.W PySem.Calls PyProof.Rows
theorem PySem.Challenge.cw_deedline_k95_whole_stands_judged_by_thei_holds : PySem.Challenge.rw_deedline_k95_whole_stands_judged_by_thei.Holds := by
  w_on; o_law
  refine HandSHeadRun.head_any (r := OpenLaw.row PySem.Challenge.rw_deedline_k95_whole_stands_judged_by_thei) (q := view (OpenLaw.row PySem.Challenge.rw_deedline_k95_whole_stands_judged_by_thei).prog [45]) (H := K95.hk) (ob := K95.ob) (M := 8000) (loose := K95.names) (d := HandSHeadRun.topDef (OpenLaw.row PySem.Challenge.rw_deedline_k95_whole_stands_judged_by_thei).prog 45) (kwd := []) K95.ob_eq
    (by kernel_rfl) (fun s => by kernel_rfl) K95.run (by kernel_rfl) (by kernel_rfl) (by kernel_rfl) (by rfl) (by first | assumption | decide +kernel) (by decide +kernel) ⟨rfl, rfl, rfl, rfl, rfl, by decide +kernel⟩ ?hw ?hc
  case hw => w_witness2
  case hc =>
    refine Att.attach_callB (l := PySem.Challenge.rw_deedline_k95_whole_stands_judged_by_thei) rfl (by kernel_rfl) fun w s₀ s₁ mg mb fa o pm cd doc a vs ns G Y ho hd hcd hmg0 hobj hints hlen hbits hg => ?_
    obtain ⟨K, KX, h0, c, k0⟩ := Y
    have hmg : mg ("law" : PySem.Str) = some (.ref fa) := by
      have e : (HandSHeadRun.topDef (OpenLaw.row PySem.Challenge.rw_deedline_k95_whole_stands_judged_by_thei).prog 45).name = ("law" : PySem.Str) := by kernel_rfl
      rw [← e]
      exact hmg0
    obtain ⟨t1, _⟩ := He.ba (show (_ && _) = true from c.tab)
    obtain ⟨t2, t3⟩ := He.ba t1
    obtain ⟨o2, e2, e3⟩ : ∃ o2, h0.get? (He.cT K K95.pT).2 = some o2 ∧ He.emptyTab o2 = true := by
      have t4 : (match h0.get? (He.cT K K95.pT).2 with
        | some o => He.emptyTab o
        | none => false) = true := t3
      cases q : h0.get? (He.cT K K95.pT).2 with
      | none =>
        rw [q] at t4
        cases t4
      | some o2 =>
        rw [q] at t4
        exact ⟨o2, rfl, t4⟩
    have e4 := k0 _ _ e2
    rw [He.emptyTab_eq e3] at e4
    refine DL.law_end (P := K95.PW) (w := w) (x := ("script" : PySem.Str)) (k := 13) (sp := K95.spLaw K (He.cT K K95.pT).2) (CX := L2.CX K95.PW w) KX G.T.g G.T.b G.T.builtins G.T.nolimit hg e4 (c.none _ _ e2 e3) (PySem.W.codeHd_of_K KX t2) G.T.bmain hobj hints (Nat.le_trans hlen (by decide)) ⟨rfl, by decide, by decide⟩ (fun base KB NS TB => ?_) (fun H hT hS => ⟨a, ns, rfl, Nat.le_trans hlen (by decide), hT, hS, fun _ => rfl⟩) ?hcx
    · obtain ⟨f, fd, Fg, m, _, hb⟩ := (K95.whole KB NS c (w := w) TB).ex
      rw [hmg] at m
      cases m
      exact ⟨fd, Fg, hb⟩
    case hcx =>
      intro H e s2 z
      obtain ⟨_, _, _, _, _, _, _, _, _, _, _, _, z⟩ := z
      exact z
