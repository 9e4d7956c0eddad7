import PyProof.Rows.All
import Wide.All
import OpenK.AllK
import Wide.FinOn
import KE.KStateDown
import KE.GoesEnum
import KE.GoesMore
import KE.KDictCopyH
import KE.KDictWalk
import KE.KDictItemsList
import HandS.ForMost
import HandS.Walk
import HandS.Zip
import HandS.SetKeys
import HandS.Strs
import HandS.Sort
import HandS.SortRule
import HandS.SortInts
import HandS.Keys
import HandS.Conv
import HandS.SetTxt0
import HandS.Evl
import HandS.More
import HandS.IsInst
import HandS.DictComp
import HandS.ListItems
import HandS.DictTup
import HandS.TupAny
import HandS.Flow
import HandS.Set
import HandS.Defaults
import HandS.Head0
import HandS.Head1
import HandS.Head2
import HandS.HeadEnd
import HandS.HeadHook1
import HandS.HeadHook2
import PySem.Challenge.RW_keylanes_k29_whole_kinds_of_regions
import HandS.SetFor
import HandS.Style
set_option Elab.async false
set_option linter.all false
set_option maxRecDepth 100000
set_option maxHeartbeats 4000000
/-! ## KlMath -/
namespace Kl

abbrev Row := List (Option Nat)
abbrev Reg := List (Nat × Nat)

def okR (x : Nat) : Option Nat → Bool
  | none => false
  | some v => decide (v ≤ x)

def adv (rights : Row) (x high : Nat) : Nat := high + ((rights.drop high).takeWhile (okR x)).length

def rfrom (rights : Row) : Row → Nat → Nat → Nat → Reg
  | [], x, high, low => [(low, adv rights x high)]
  | v :: ls, x, high, low =>
    (low, adv rights x high) :: match v with
      | none => []
      | some v => if adv rights x high < v then [] else rfrom rights ls (x + 1) (adv rights x high) (max low v)

def regionFrom (lefts rights : Row) : Reg := rfrom rights lefts 0 0 0

theorem adv_go {rights : Row} {x high v : Nat} (h : rights[high]? = some (some v)) (hv : v ≤ x) : adv rights x (high + 1) = adv rights x high := by
  have hl : high < rights.length := (List.getElem?_eq_some_iff.mp h).1
  have e : rights.drop high = some v :: rights.drop (high + 1) := by
    rw [List.drop_eq_getElem_cons hl]
    have := (List.getElem?_eq_some_iff.mp h).2
    rw [this]
  unfold adv
  rw [e, List.takeWhile_cons, if_pos (by simp [okR, hv]), List.length_cons]
  omega
theorem adv_stop {rights : Row} {x high : Nat} (h : ∀ v, rights[high]? = some (some v) → x < v) : adv rights x high = high := by
  unfold adv
  by_cases hl : high < rights.length
  · rw [List.drop_eq_getElem_cons hl, List.takeWhile_cons]
    have hh : rights[high]? = some rights[high] := List.getElem?_eq_getElem hl
    cases e : rights[high] with
    | none => simp [okR]
    | some v =>
      have := h v (by rw [hh, e])
      rw [if_neg (by simp [okR]; omega)]
      rfl
  · rw [List.drop_eq_nil_of_le (by omega)]
    rfl
theorem adv_end {rights : Row} {x high : Nat} (h : rights.length ≤ high) : adv rights x high = high :=
  adv_stop fun v e => by
    have := (List.getElem?_eq_some_iff.mp e).1
    omega
theorem adv_ge (rights : Row) (x high : Nat) : high ≤ adv rights x high := Nat.le_add_right _ _
theorem adv_le {rights : Row} {x high : Nat} (h : high ≤ rights.length) : adv rights x high ≤ rights.length := by
  unfold adv
  have h1 := (List.takeWhile_sublist (okR x) (l := rights.drop high)).length_le
  rw [List.length_drop] at h1
  omega

/-! ### regions -/
def lo (g : Reg) (i : Nat) : Nat := (g.getD i (0, 0)).1
def hi (g : Reg) (i : Nat) : Nat := (g.getD i (0, 0)).2
structure RegOk (g : Reg) (W T : Nat) : Prop where
  pos : 1 ≤ g.length
  wide : g.length ≤ W
  first : lo g 0 = 0
  col : ∀ i, i < g.length → lo g i ≤ hi g i ∧ hi g i ≤ T
  step : ∀ i, i + 1 < g.length → lo g i ≤ lo g (i + 1) ∧ lo g (i + 1) ≤ hi g i ∧ hi g i ≤ hi g (i + 1)

def rightOf (g : Reg) : Nat := hi g (g.length - 1)
def leftsOf (g : Reg) : List Nat := (List.range (g.length - 1)).map fun x => if lo g x < lo g (x + 1) then lo g (x + 1) else 0
def firstOver (g : Reg) (y : Nat) : Nat := g.findIdx (fun c => decide (y < c.2))
def barred (g : Reg) (x y : Nat) : Bool := (g.take x).any fun c => decide (c.1 ≤ y) && decide (y ≤ c.2)
def rightsOf (g : Reg) : List Nat := (List.range (rightOf g)).map fun y => if barred g (firstOver g y) y = true then firstOver g y else 0

theorem getD_at {g : Reg} {i : Nat} (h : i < g.length) : g[i]? = some (lo g i, hi g i) := by
  unfold lo hi
  rw [List.getD_eq_getElem?_getD, List.getElem?_eq_getElem h]
  rfl
theorem hi_mono {g : Reg} {W T : Nat} (ok : RegOk g W T) : ∀ j i, i ≤ j → j < g.length → hi g i ≤ hi g j
  | 0, i, h, _ => by
    have : i = 0 := by omega
    rw [this]
    exact Nat.le_refl _
  | j + 1, i, h, hj => by
    by_cases e : i = j + 1
    · rw [e]
      exact Nat.le_refl _
    · exact Nat.le_trans (hi_mono ok j i (by omega) (by omega)) (ok.step j hj).2.2
theorem lo_mono {g : Reg} {W T : Nat} (ok : RegOk g W T) : ∀ j i, i ≤ j → j < g.length → lo g i ≤ lo g j
  | 0, i, h, _ => by
    have : i = 0 := by omega
    rw [this]
    exact Nat.le_refl _
  | j + 1, i, h, hj => by
    by_cases e : i = j + 1
    · rw [e]
      exact Nat.le_refl _
    · exact Nat.le_trans (lo_mono ok j i (by omega) (by omega)) (ok.step j hj).1
/-- the first column over y -/
theorem first_is {g : Reg} {W T : Nat} (ok : RegOk g W T) {x y : Nat} (hx : x < g.length) (h1 : y < hi g x) (h2 : ∀ i, i < x → hi g i ≤ y) : firstOver g y = x := by
  unfold firstOver
  rw [List.findIdx_eq hx]
  refine ⟨?_, fun j hj => ?_⟩
  · have e := getD_at hx
    have e2 := (List.getElem?_eq_some_iff.mp e).2
    rw [e2]
    simpa using h1
  · have e := getD_at (g := g) (i := j) (by omega)
    have e2 := (List.getElem?_eq_some_iff.mp e).2
    rw [e2]
    have := h2 j hj
    simp
    omega
theorem first_lt {g : Reg} {W T : Nat} (ok : RegOk g W T) {y : Nat} (h : y < rightOf g) : firstOver g y < g.length ∧ y < hi g (firstOver g y) ∧ ∀ i, i < firstOver g y → hi g i ≤ y := by
  have hp := ok.pos
  have ex : firstOver g y < g.length := by
    unfold firstOver
    rw [List.findIdx_lt_length]
    have e := getD_at (g := g) (i := g.length - 1) (by omega)
    obtain ⟨hl, e2⟩ := List.getElem?_eq_some_iff.mp e
    exact ⟨_, List.getElem_mem hl, by rw [e2]; simpa [rightOf] using h⟩
  refine ⟨ex, ?_, fun i hi' => ?_⟩
  · have h1 : decide (y < (g[firstOver g y]).2) = true := List.findIdx_getElem (p := fun c : Nat × Nat => decide (y < c.2)) (w := ex)
    have e := getD_at ex
    have e2 := (List.getElem?_eq_some_iff.mp e).2
    rw [e2] at h1
    simpa using h1
  · have h1 := List.not_of_lt_findIdx (p := fun c : Nat × Nat => decide (y < c.2)) (xs := g) (i := i) hi'
    have e := getD_at (g := g) (i := i) (by omega)
    have e2 := (List.getElem?_eq_some_iff.mp e).2
    rw [e2] at h1
    simp at h1
    omega
theorem rights_len (g : Reg) : (rightsOf g).length = rightOf g := by simp [rightsOf]
theorem lefts_len (g : Reg) : (leftsOf g).length = g.length - 1 := by simp [leftsOf]
theorem rights_at {g : Reg} {y : Nat} (h : y < rightOf g) : ((rightsOf g).map some)[y]? = some (some (if barred g (firstOver g y) y = true then firstOver g y else 0)) := by
  simp [rightsOf, h]
theorem lefts_at {g : Reg} {x : Nat} (h : x < g.length - 1) : ((leftsOf g).map some)[x]? = some (some (if lo g x < lo g (x + 1) then lo g (x + 1) else 0)) := by
  simp [leftsOf, h]
/-- how high before column x -/
def before (g : Reg) : Nat → Nat
  | 0 => 0
  | x + 1 => hi g x
theorem adv_all {g : Reg} {W T : Nat} (ok : RegOk g W T) {x : Nat} (hx : x < g.length) : ∀ (k y : Nat), before g x ≤ y → y + k = hi g x → adv ((rightsOf g).map some) x y = hi g x
  | 0, y, _, h => by
    have hy : y = hi g x := by omega
    rw [hy]
    refine adv_stop fun v e => ?_
    have hl : hi g x < rightOf g := by
      have := (List.getElem?_eq_some_iff.mp e).1
      simpa [rights_len] using this
    rw [rights_at hl] at e
    have ev := Option.some.inj (Option.some.inj e)
    obtain ⟨f1, f2, f3⟩ := first_lt ok hl
    have fx : x < firstOver g (hi g x) := by
      by_cases q : firstOver g (hi g x) ≤ x
      · have := hi_mono ok x _ q hx
        omega
      · omega
    have hb : barred g (firstOver g (hi g x)) (hi g x) = true := by
      unfold barred
      rw [List.any_eq_true]
      have ge := getD_at hx
      refine ⟨(lo g x, hi g x), ?_, by simp [(ok.col x hx).1]⟩
      rw [List.mem_iff_getElem?]
      exact ⟨x, by rw [List.getElem?_take_of_lt fx]; exact ge⟩
    rw [if_pos hb] at ev
    omega
  | k + 1, y, hb, h => by
    have hr : hi g x ≤ rightOf g := hi_mono ok _ _ (by omega) (by have := ok.pos; omega)
    have hl : y < rightOf g := by omega
    have fi : firstOver g y = x := first_is ok hx (by omega) fun i hi' => by
      cases x with
      | zero => omega
      | succ x =>
        have h1 : hi g i ≤ hi g x := hi_mono ok x i (by omega) (by omega)
        have h2 : before g (x + 1) = hi g x := rfl
        omega
    have e := rights_at hl
    rw [fi] at e
    have h3 := adv_all ok hx k (y + 1) (by omega) (by omega)
    rw [adv_go e (by split <;> omega)] at h3
    exact h3
theorem before_le {g : Reg} {W T : Nat} (ok : RegOk g W T) {x : Nat} (hx : x < g.length) : before g x ≤ hi g x := by
  cases x with
  | zero => exact Nat.zero_le _
  | succ x => exact (ok.step x hx).2.2
theorem rfrom_back {g : Reg} {W T : Nat} (ok : RegOk g W T) : ∀ (k x : Nat), x + k + 1 = g.length → rfrom ((rightsOf g).map some) (((leftsOf g).map some).drop x) x (before g x) (lo g x) = g.drop x
  | 0, x, h => by
    have hx : x < g.length := by omega
    have e1 : ((leftsOf g).map some).drop x = [] := List.drop_eq_nil_of_le (by simp [lefts_len]; omega)
    have e2 : g.drop x = [(lo g x, hi g x)] := by
      have ge := getD_at hx
      obtain ⟨hl, e2⟩ := List.getElem?_eq_some_iff.mp ge
      rw [List.drop_eq_getElem_cons hl, e2, List.drop_eq_nil_of_le (by omega)]
    rw [e1, e2]
    show [(lo g x, adv _ x (before g x))] = _
    rw [adv_all ok hx (hi g x - before g x) (before g x) (Nat.le_refl _) (by have := before_le ok hx; omega)]
  | k + 1, x, h => by
    have hx : x < g.length := by omega
    have hx1 : x < g.length - 1 := by omega
    have ea := lefts_at hx1
    obtain ⟨hl, ea2⟩ := List.getElem?_eq_some_iff.mp ea
    have e2 : g.drop x = (lo g x, hi g x) :: g.drop (x + 1) := by
      have ge := getD_at hx
      obtain ⟨hl, e2⟩ := List.getElem?_eq_some_iff.mp ge
      rw [List.drop_eq_getElem_cons hl, e2]
    rw [List.drop_eq_getElem_cons hl, ea2, e2]
    have ih := rfrom_back ok k (x + 1) (by omega)
    have st := ok.step x (by omega)
    unfold rfrom
    rw [adv_all ok hx (hi g x - before g x) (before g x) (Nat.le_refl _) (by have := before_le ok hx; omega)]
    refine congrArg (List.cons (lo g x, hi g x)) ?_
    show (if hi g x < (if lo g x < lo g (x + 1) then lo g (x + 1) else 0) then [] else rfrom _ _ (x + 1) (hi g x) (max (lo g x) (if lo g x < lo g (x + 1) then lo g (x + 1) else 0))) = _
    have e3 : max (lo g x) (if lo g x < lo g (x + 1) then lo g (x + 1) else 0) = lo g (x + 1) := by
      split <;> omega
    rw [e3, if_neg (by split <;> omega)]
    exact ih
theorem region_back {g : Reg} {W T : Nat} (ok : RegOk g W T) : regionFrom ((leftsOf g).map some) ((rightsOf g).map some) = g := by
  have h := rfrom_back ok (g.length - 1) 0 (by have := ok.pos; omega)
  rw [ok.first] at h
  simpa [regionFrom, before] using h
end Kl

/-! ## KlBase -/
namespace Kl
open PySem PySem.Spec PyProof.Rows L2
def top (i : Nat) : Stmt := PySem.Challenge.pw_keylanes_k29_whole_kinds_of_regions.main.body.getD i (.Pass ⟨0, 0, 0, 0⟩)
abbrev s_is_int : Stmt := top 9
abbrev s_is_in : Stmt := top 10
abbrev s_is_set : Stmt := top 11
abbrev s_need_lane : Stmt := top 12
abbrev s_sides_of : Stmt := top 13
abbrev s_left_room : Stmt := top 14
abbrev s_right_room : Stmt := top 15
abbrev s_left_door : Stmt := top 16
abbrev s_right_door : Stmt := top 17
abbrev s_firsts_of : Stmt := top 18
abbrev s_held_back : Stmt := top 19
abbrev s_thresholds_of : Stmt := top 20
abbrev s_sides : Stmt := top 21
abbrev s_thresholds : Stmt := top 22
abbrev s_is_column : Stmt := top 24
abbrev s_fits_behind : Stmt := top 25
abbrev s_need_region : Stmt := top 26
abbrev s_end_of : Stmt := top 27
abbrev s_region_from : Stmt := top 28
abbrev s_region : Stmt := top 29
abbrev s_region_of : Stmt := top 30
abbrev s_are_rows : Stmt := top 31
abbrev s_need_rows : Stmt := top 32
abbrev s_region_by : Stmt := top 33
abbrev s_rows_for : Stmt := top 34
abbrev s_groups_of : Stmt := top 36
abbrev s_is_beyond : Stmt := top 37
abbrev s_sharing : Stmt := top 38
abbrev s_augmented : Stmt := top 39
abbrev s_partners_of : Stmt := top 40
abbrev s_kinds_of : Stmt := top 41
abbrev s_number_for : Stmt := top 42
abbrev s_least_kinds : Stmt := top 43
abbrev s_lane_by : Stmt := top 44
abbrev s_kinds_in : Stmt := top 45
abbrev s_count_kinds : Stmt := top 46
abbrev s_region_kinds : Stmt := top 47
abbrev s_lane_of : Stmt := top 48
abbrev s_spare_kinds : Stmt := top 49
abbrev s_law_taken : Stmt := top 51
abbrev s_law_pick : Stmt := top 52
abbrev s_law_alike : Stmt := top 53
abbrev s_law_lane : Stmt := top 54
abbrev s_law_region : Stmt := top 55
abbrev s_law_lists : Stmt := top 56
abbrev s_law : Stmt := top 57

abbrev FnP (K : PySem.W.Frag) (x : Str) (st : Stmt) (f : Addr) (fd : FuncData) : Prop := FunD K x x (defArgs st) (defBody st) (defScope st) [] [] f fd
/-- the def x stands in the module and keeps its promise at level k -/
structure Has (P : Program) (w : World) (K : PySem.W.Frag) (mg : Str → Option Value) (base : Heap) (k : Nat) (x : Str) (ps : List Str) (sp : Sp) : Prop where
  ex : ∃ f fd, FnOk P w K mg base CX0 k f fd ps sp ∧ mg x = some (.ref f) ∧ PySem.W.keepIn K (.ref f) = true ∧ Binds K fd ps []
section
variable {X : Cx}
theorem pe_fn {k : Nat} {x : Str} {ps : List Str} {sp : Sp} {e : Expr} {es : List Expr} {t : TA} {p pos : Pos} (G : Has X.prog X.w X.K X.mg X.base k x ps sp) (hr : Room k X.A) (ha : PA X (e :: es) t) (hg : Gl X x := by rfl)
    (hdb : (x == ("__debug__" : Str)) = false := by decide) (he : starEach (e :: es) X.env = (false, eval e X.env) :: starEach es X.env := by rfl) (hpl : (backTo pos (starEach es X.env)).any (·.1) = false := by rfl) :
    PE X (.Call (.Name x p) (e :: es) [] pos) (tCall sp [] E0 t) := by
  obtain ⟨f, fd, F, hm, hk, hb⟩ := G.ex
  exact pe_call F hr hg hm hk hb .nil pass0 ha hdb he hpl
end
theorem Has.mono {P : Program} {w : World} {K : PySem.W.Frag} {mg : Str → Option Value} {base : Heap} {j k : Nat} {x : Str} {ps : List Str} {sp : Sp} (G : Has P w K mg base j x ps sp) (h : j ≤ k) : Has P w K mg base k x ps sp := by
  obtain ⟨f, fd, F, hm, hk, hb⟩ := G.ex
  exact ⟨f, fd, F.mono h, hm, hk, hb⟩
/-- what the module's names are -/
structure Bt (mg : Str → Option Value) : Prop where
  len : mg "len" = none
  isi : mg "isinstance" = none
  int : mg "int" = none
  bool : mg "bool" = none
  str : mg "str" = none
  tuple : mg "tuple" = none
  list : mg "list" = none
  all : mg "all" = none
  any : mg "any" = none
  zip : mg "zip" = none
  enumerate : mg "enumerate" = none
  range : mg "range" = none
  max : mg "max" = none
  min : mg "min" = none
  sorted : mg "sorted" = none
  set : mg "set" = none
  mr : ∃ t, mg "MOST_ROOMS" = some (.int 60 t)
  ki : ∃ t, mg "KINDS" = some (.str "abcdefghijkl" t)
end Kl

/-! ## KlRules -/
namespace Kl
open PySem PySem.Spec PyProof.Rows L2
section
variable {X : Cx} {pos : Pos}
/-! ### a op b op c op d -/
def tChain3 (r r' r'' : R2) (ta tb tc td : TE) : TE := fun σ H Q => ta σ H fun x H1 => tb σ H1 fun y H2 => r x y H2 fun z H3 => ∃ k, z = .bl k ∧
  (if k = true then tc σ H3 fun v H4 => r' y v H4 fun z' H5 => ∃ k', z' = .bl k' ∧ (if k' = true then td σ H5 fun u H6 => r'' v u H6 Q else Q (.bl false) H5) else Q (.bl false) H3)
theorem pe_chain3 {a b c d : Expr} {ta tb tc td : TE} {op op' op'' : CmpOp} {r r' r'' : R2} (ho : OpR X (compareOp op) r) (ho' : OpR X (compareOp op') r') (ho'' : OpR X (compareOp op'') r'') (ha : PE X a ta) (hb : PE X b tb) (hc : PE X c tc) (hd : PE X d td)
    (hm : lastMarks [op, op', op''] [b, c, d] = false := by with_unfolding_all rfl) : PE X (.Compare a [op, op', op''] [b, c, d] pos) (tChain3 r r' r'' ta tb tc td) := by
  refine ⟨fun pins s σ H Q I h => ?_⟩
  refine Compare_chain (thn (ha.run pins s σ H _ I h) fun v s1 ⟨x, H1, I1, r1, q1⟩ => chain_link (thn (hb.run pins s1 σ H1 _ I1 q1) fun u s2 ⟨y, H2, I2, r2, q2⟩ =>
    thn (ho pins s2 σ H2 x y v u _ I2 r1 r2 q2) fun d' s3 ⟨z, H3, I3, r3, k, e, q3⟩ => ?_)) hm
  subst e
  cases r3
  refine wpAny_truthy_bool ?_
  cases k with
  | false => exact ite_ff ⟨.bl false, H3, I3, rfl, q3⟩
  | true =>
    refine ite_tt (chain_link (thn (hc.run pins s3 σ H3 _ I3 q3) fun w' s4 ⟨z', H4, I4, r4, q4⟩ => thn (ho' pins s4 σ H4 y z' u w' _ I4 r2 r4 q4) fun d'' s5 ⟨z2, H5, I5, r5, k', e', q5⟩ => ?_))
    subst e'
    cases r5
    refine wpAny_truthy_bool ?_
    cases k' with
    | false => exact ite_ff ⟨.bl false, H5, I5, rfl, q5⟩
    | true => exact ite_tt (chain_last (thn (hd.run pins s5 σ H5 _ I5 q5) fun w2 s6 ⟨z3, H6, I6, r6, q6⟩ => ho'' pins s6 σ H6 z' z3 w' w2 Q I6 r4 r6 q6))
/-! ### xs[i] += text -/
def rGetL : V → V → Hp → VK → Prop := fun o i H Q => ∃ p xs j v, o = .ref p ∧ i = .int ((j : Nat) : Int) ∧ H p = some (.lst xs) ∧ xs[j]? = some v ∧ Q v H
theorem get_list : PGet X rGetL := by
  intro pins s σ H o i ov iv Q I ro ri h
  obtain ⟨p, xs, j, v, rfl, rfl, hp, hv, q⟩ := h
  cases ro
  obtain ⟨t, rfl⟩ := ri
  obtain ⟨its, r, pl, hz⟩ := I.list (SqL.of hp)
  obtain ⟨u, hu, ru⟩ := r.get hv
  have hj : j < xs.length := (List.getElem?_eq_some_iff.mp hv).1
  have hn := line63
  exact wpAny_getItem_list pl.isList (by omega) (by omega) (by simpa using hu) ⟨v, H, I, ru, q⟩
def ipS : TIp := fun x y H Q => ∃ i j, x = .str i ∧ y = .str j ∧ i.length + j.length ≤ sizeLine ∧ Q (.str (i ++ j)) H
theorem ip_addS : PIp X .Add ipS := by
  intro pins s σ H x y v u Q I rx ry h
  obtain ⟨i, j, rfl, rfl, hz, q⟩ := h
  obtain ⟨t, rfl⟩ := rx
  obtain ⟨t', rfl⟩ := ry
  exact PyProof.Rows.iadd_str (fun t' tk => ⟨.str (i ++ j), H, I.tok _, ⟨_, rfl⟩, q⟩) hz
end
/-! ### dicts whose keys are ints and None -/
def optLeaf : Option Int → Leaf
  | none => .none
  | some i => .num i
def optIs : Option Int → Value → Bool
  | none, .none => true
  | some i, v => Value.isInt i v
  | _, _ => false
theorem optLeaf_inj : ∀ {a b : Option Int}, optLeaf a = optLeaf b → a = b
  | none, none, _ => rfl
  | some _, some _, e => by injection e with e; rw [e]
  | none, some _, e => nomatch e
  | some _, none, e => nomatch e
theorem optIs_shape : ∀ {k : Option Int} {v : Value}, optIs k v = true → (k = none ∧ v = Value.none) ∨ ∃ i t, k = some i ∧ v = Value.int i t
  | none, v, e => by
    cases v <;> first | exact .inl ⟨rfl, rfl⟩ | exact absurd e Bool.false_ne_true
  | some i, v, e => by
    obtain ⟨t, q⟩ := Value.isInt_shape (k := i) (v := v) e
    exact .inr ⟨i, t, rfl, q⟩
theorem optIs_leaf {k : Option Int} {v : Value} (e : optIs k v = true) : Leaf.isOf (optLeaf k) v = true := by
  rcases optIs_shape e with ⟨rfl, rfl⟩ | ⟨i, t, rfl, rfl⟩
  · rfl
  · exact decide_eq_true rfl
def optKind (prog : Program) (w : World) : PySem.KeyKind prog w (Option Int) where
  is := optIs
  hash := fun k => (optLeaf k).key.hash w
  inj := fun v a b ha hb => by
    rcases optIs_shape ha with ⟨rfl, rfl⟩ | ⟨i, t, rfl, rfl⟩
    · rcases optIs_shape hb with ⟨rfl, _⟩ | ⟨j, u, rfl, e⟩
      · rfl
      · exact nomatch e
    · rcases optIs_shape hb with ⟨rfl, e⟩ | ⟨j, u, rfl, e⟩
      · exact nomatch e
      · injection e with e1 _; rw [e1]
  byValue := fun _ _ h => Leaf.byValue (optIs_leaf h)
  pyHash := fun hv h => pyHash_leaf (optIs_leaf hv) h
  eqBool := fun {A E s a b u v Q} hu hv h => by
    refine eqAt_leaf (optIs_leaf hu) (optIs_leaf hv) _ _ _ _ ?_
    by_cases e : a = b
    · rw [decide_eq_true e] at h
      rw [decide_eq_true (congrArg optLeaf e)]
      exact h
    · rw [decide_eq_false e] at h
      rw [decide_eq_false (fun q => e (optLeaf_inj q))]
      exact h
  «strs» := fun k x t v h => by
    rcases optIs_shape h with ⟨_, e⟩ | ⟨_, _, _, e⟩
    · exact nomatch e
    · exact nomatch e
/-- the key as a value -/
def nV : Option Int → V
  | none => .non
  | some i => .int i
theorem nV_is {P : Program} {w : World} {k : Option Int} {u : Value} (r : RelV (nV k) u) : (optKind P w).is k u = true := by
  cases k with
  | none => cases r; rfl
  | some i => obtain ⟨t, rfl⟩ := r; exact (by simp [Value.isInt] : Value.isInt i (.int i t) = true)
theorem nV_rel {k : Option Int} {u : Value} (h : optIs k u = true) : RelV (nV k) u := by
  rcases optIs_shape h with ⟨rfl, rfl⟩ | ⟨i, t, rfl, rfl⟩
  · rfl
  · exact ⟨t, rfl⟩
def ndP (P : Program) (w : World) (a : Addr) (kvs : List (Option Int × V)) (h : Heap) : Prop := kvs.length ≤ sizeLine ∧ (a == sysModules) = false ∧ ∃ vs, KV kvs vs ∧ h.DictOf (optKind P w) a vs
def NDict (P : Program) (w : World) (a : Addr) (kvs : List (Option Int × V)) : HO := .ext (ndP P w a kvs)
theorem nd_ok {P : Program} {w : World} {H : Hp} {h : Heap} {a : Addr} {kvs : List (Option Int × V)} (p : ndP P w a kvs h) : ObjOk P w H h a (NDict P w a kvs) := by
  obtain ⟨z, hs, vs, kv, o, es, ep, ho, r⟩ := id p
  refine ⟨p, ⟨o, ho⟩, fun h1 h2 q k => ?_⟩
  obtain ⟨z, hs, vs, kv, o, es, ep, ho, r⟩ := q
  exact ⟨z, hs, vs, kv, o, es, ep, k o ho, r⟩
section
variable {X : Cx} {pins : List (Addr × Obj)} {σ : L2.St} {H : Hp} {s : Shared} {a : Addr} {kvs : List (Option Int × V)}
theorem nd_of (I : Inv X pins σ H s) (e : H a = some (NDict X.prog X.w a kvs)) : ndP X.prog X.w a kvs s.heap := (I.hok a _ e).1
def tDNewN (P : Program) (w : World) : TE := fun _ H Q => ∀ p, H p = none → Q (.ref p) (upd H p (NDict P w p []))
theorem pe_dnewN {pos : Pos} : PE X (.Dict [] [] pos) (tDNewN X.prog X.w) := ⟨fun pins s σ H Q I h =>
  wpAny_Dict_empty ⟨.ref s.heap.objs.size, _, I.laid (a := s.heap.objs.size) (o := NDict X.prog X.w s.heap.objs.size []) (t' := s.toks) (fun _ _ q => Heap.get?_push_of_some _ q) (Nat.le_refl _)
    (nd_ok ⟨Nat.zero_le _, beq_eq_false_iff_ne.mpr (Ne.symm (Nat.ne_of_lt I.big)), [], .nil, Heap.DictOf.new s.heap⟩), rfl, h _ (I.hok.fresh (Nat.le_refl _))⟩⟩
def rInN (P : Program) (w : World) : R2 := fun x y H Q => ∃ k a kvs, x = nV k ∧ y = .ref a ∧ H a = some (NDict P w a kvs) ∧ Q (.bl (valV kvs k).isSome) H
theorem op_inN : OpR X (compareOp .In) (rInN X.prog X.w) := by
  intro pins s σ H x y v u Q I rx ry h
  obtain ⟨k, a, kvs, rfl, rfl, hd, q⟩ := h
  cases ry
  obtain ⟨z, hs, vs, kv, dd⟩ := nd_of I hd
  refine wpAny_in_of (nV_is rx) hs dd.mapOf ⟨.bl _, H, I.tok _, rfl, ?_⟩
  rw [← (kv.val k).isSome_eq]
  exact q
def rIxN (P : Program) (w : World) : R2 := fun x y H Q => ∃ k a kvs v, y = nV k ∧ x = .ref a ∧ H a = some (NDict P w a kvs) ∧ valV kvs k = some v ∧ Q v H
theorem ix_N : IxR X (rIxN X.prog X.w) := by
  intro value slice pins s σ H x y v u Q I rx ry h hs
  obtain ⟨k, a, kvs, r, rfl, rfl, hd, hv, q⟩ := h
  obtain rfl : v = Value.ref a := rx
  obtain ⟨z, hsm, vs, kv, dd⟩ := nd_of I hd
  obtain ⟨w', hw, rw'⟩ := RelO.some_of (v := r) (o := valueAt vs k) (by rw [← hv]; exact kv.val k)
  exact tail_any dd.mapOf.typeIs slot_dict_getitem.lookup (wpAny_getItem_of (nV_is ry) dd.mapOf hw ⟨r, H, I.tok _, rw', q⟩) hs
def rSetN (P : Program) (w : World) : TSet := fun o i v H Q => ∃ a k kvs, o = .ref a ∧ i = nV k ∧ H a = some (NDict P w a kvs) ∧ kvs.length < sizeLine ∧ Q (upd H a (NDict P w a (putK kvs k v)))
theorem set_N : PSet X (rSetN X.prog X.w) := by
  intro pins s σ H o i v ov iv u Q I ro ri rv h
  obtain ⟨a, k, kvs, rfl, rfl, hd, hl, q⟩ := h
  cases ro
  obtain ⟨z, hs, vs, kv, dd⟩ := nd_of I hd
  have hz : vs.length ≤ sizeLine := by rw [← kv.length]; exact z
  have hl' : (putK kvs k v).length ≤ sizeLine := by have := length_putK kvs k v; omega
  refine wpAny_setItem_pairs (hsz := hz) (nV_is ri) dd fun h' dd' hs' => ⟨_, ?_, q⟩
  have he : ∃ q, h'.get? a = some q := let ⟨q, _, _, hq, _⟩ := dd'; ⟨q, hq⟩
  exact d_write I (by rw [hd]; exact True.intro) hs' he (nd_ok ⟨hl', hs, _, kv.put k rv, dd'⟩)
/-! items -/
def ItiN (P : Program) (w : World) (d : Addr) (o : Obj) (kvs : List (Option Int × V)) : It :=
  ⟨fun i H => H d = some (.frz o (NDict P w d kvs)) ∧ i < kvs.length, fun i H x H' => ∃ T k v, kvs[i]? = some (k, v) ∧ x = .ref T ∧ H T = none ∧ H' = upd H T (.tup [nV k, v]), fun i H => H d = some (.frz o (NDict P w d kvs)) ∧ kvs.length ≤ i⟩
theorem Inv.frzN {d : Addr} {o : Obj} (I : Inv X pins σ H s) (h : H d = some (.frz o (NDict X.prog X.w d kvs))) :
    (d == sysModules) = false ∧ s.heap.get? d = some o ∧ o.ExactDict ∧ ∃ (es : Array DictEntry) (ep : Nat) (vs : List (Option Int × Value)), o.data = .dict es ep ∧ es.size = kvs.length ∧ KV kvs vs ∧ s.heap.DictAt (optKind X.prog X.w) d vs ep := by
  obtain ⟨hd, ⟨z, hs, vs, kv, o', es, ep, ho, hx, hdt, r⟩, _⟩ := I.hok d _ h
  rw [hd] at ho
  cases ho
  refine ⟨hs, hd, hx, es, ep, vs, hdt, ?_, kv, o, es, hd, hx, hdt, r⟩
  have l1 := r.2.1.length
  have l2 : kvs.length = vs.length := Paired.length kv
  rw [Array.length_toList] at l1
  omega
theorem turn_itemsN {P : Program} {w : World} {K : PySem.W.Frag} {d : Addr} {o : Obj} {es : Array DictEntry} {ep : Nat} {elts : List Expr} {kk : Nat} {tpos : Pos} (it : Addr) (hod : o.data = .dict es ep) :
    Turn P w K (.Tuple elts kk tpos) (ItiN P w d o kvs) [it] it (fun i h => ∃ ok ov, IsItemIter h it d i kvs.length ep ok ov) where
  mem := by simp
  obj := fun i h st b hb => by
    have e : b = it := by simpa using hb
    subst e
    obtain ⟨ok, ov, e⟩ := st
    exact ⟨_, e, fun v z => nomatch z⟩
  keep := fun i h h' st k => let ⟨ok, ov, e⟩ := st; ⟨ok, ov, k it (by simp) _ e⟩
  item := by
    intro X hP hw hK hc i pins s σ H E I hf st hg
    subst hP hw hK
    obtain ⟨hd, hi⟩ := hg
    obtain ⟨hs, hgd, hx, es', ep', vs, hdt, hsz, kv, hm⟩ := Inv.frzN I hd
    obtain ⟨rfl, rfl⟩ := dict_ep hod hdt
    obtain ⟨⟨k, v⟩, hkv⟩ : ∃ p, kvs[i]? = some p := ⟨kvs[i], List.getElem?_eq_getElem hi⟩
    obtain ⟨u, hu, ru⟩ := kv_get kv hkv
    have hl : kvs.length = vs.length := Paired.length kv
    obtain ⟨ok, ov, he⟩ := st
    rw [hl] at he
    have hlt : it < s.heap.objs.size := Heap.lt_size he
    refine wpAny_pyNext_items_item he hm hu fun key h' hkey ho hT hz hk => ?_
    refine ⟨_, rfl, wpAny_letOwnedTupleGo_items (s := { s with heap := h' }) ho fun h'' he' sb => ?_⟩
    have hT2 : h''.get? s.heap.objs.size = some { cls := .type "tuple", data := .seq #[key, u] } := (sb.2 _ (Nat.ne_of_gt hlt)).trans hT
    have new : ObjOk X.prog X.w (upd H s.heap.objs.size (.tup [nV k, v])) h'' s.heap.objs.size (.tup [nV k, v]) :=
      ⟨by show 2 ≤ sizeLine; decide, [key, u], .cons (nV_rel (show optIs k key = true from hkey)) (.cons ru .nil), ⟨_, hT2, rfl, _, rfl⟩⟩
    have I1 : Inv X pins σ (upd H s.heap.objs.size (.tup [nV k, v])) { s with heap := h'' } :=
      I.turnedNew (t' := s.toks) (ch := [it]) (fun b ob hb e => (sb.2 b (by simpa using hb)).trans (hk b ob (by simpa using hb) e)) hf (Nat.le_refl _) new
    refine ⟨.ref s.heap.objs.size, _, I1, rfl, ⟨_, k, v, hkv, rfl, I.hok.fresh (Nat.le_refl _), rfl⟩, ⟨key, u, ?_⟩, fun b hb => ?_⟩
    · rw [hl]; exact he'
    · have e : b = it := by simpa using hb
      rw [e, upd_ne (Nat.ne_of_lt hlt)]
      exact (hf it (by simp)).1
  done := by
    intro X hP hw hK hc i pins s σ H E I hf st hg
    subst hP hw hK
    obtain ⟨hd, hi⟩ := hg
    obtain ⟨f0, f1, f2, f3, f4, f5⟩ := hf it (by simp)
    obtain ⟨hs, hgd, hx, es', ep', vs, hdt, hsz, kv, hm⟩ := Inv.frzN I hd
    obtain ⟨rfl, rfl⟩ := dict_ep hod hdt
    have hl : kvs.length = vs.length := Paired.length kv
    obtain ⟨ok, ov, he⟩ := st
    rw [hl] at he
    exact wpAny_pyNext_items_end (I.ok.hd hc) he hm (List.getElem?_eq_none (by omega)) fun h' eb => ⟨rfl, I.turned (t' := s.toks) (fun b ob hb e => eb b ob hb e) f0 f1 f3 f4 f5⟩
  self := fun A i s Q E st h => let ⟨_, _, e⟩ := st; PySem.W.kcp_self e h
def iItemsN (P : Program) (w : World) (td : TE) : TI := fun σ H R => td σ H fun x H1 => ∃ d o kvs, x = .ref d ∧ H1 d = some (.frz o (NDict P w d kvs)) ∧ R (ItiN P w d o kvs) H1
theorem pi_itemsN {e : Expr} {td : TE} {apos cpos : Pos} {elts : List Expr} {kk : Nat} {tpos : Pos} (he : PE X e td) (hbase : attributeBase e "items" X.env (eval e X.env) = eval e X.env := by rfl) (hline : (apos.endLine == cpos.line) = true := by rfl) :
    PI X (.Tuple elts kk tpos) (.Call (.Attribute e "items" apos) [] [] cpos) (iItemsN X.prog X.w td) := by
  refine ⟨fun pins s σ H R I h => ?_⟩
  refine wpAny_Call_method (T := "dict") (id := "dict.items") hbase rfl hline F.plainAttrs_dict F.slot_dict_items F.type_dict_items (thn (he.run pins s σ H _ I h) fun u s1 ⟨x, H1, I1, rx, d, o, kvs, ex, hd, q⟩ => ?_)
  subst ex
  obtain rfl : u = Value.ref d := rx
  obtain ⟨hs, hgd, hx, es, ep, vs, hdt, hsz, kv, hm⟩ := Inv.frzN I1 hd
  have hl : kvs.length = vs.length := Paired.length kv
  refine ⟨hm.dictOf.typeIs, hm.dictOf.mapOf.noDict, ?_⟩
  have I2 : Inv X pins σ H1 { s1 with heap := s1.heap.push { cls := .type "dict_items", data := .fields #[.ref d] } } := I1.kept (t' := s1.toks) fun b ob q => Heap.get?_push_of_some _ q
  have fin : wpAny (model X.prog X.w) X.A (pyIter (.ref s1.heap.objs.size)) (PIE X pins σ (.Tuple elts kk tpos) R) X.xe { s1 with heap := s1.heap.push { cls := .type "dict_items", data := .fields #[.ref d] } } := by
    refine wpAny_pyIter_items (d := d) (knd := optKind X.prog X.w) ⟨_, Heap.get?_push_size _ rfl, rfl, rfl⟩ (hm.push _) (pi_one (tk := s1.toks) I2 _ (turn_itemsN _ hdt) ⟨.none, .none, ?_⟩ q)
    rw [hl]
    exact Heap.get?_push_size _ rfl
  show wpAny _ _ (callWith cpos (.builtin "dict.items") [.ref d] [] []) _ X.xe s1
  exact method_meetsIn F.slot_dict_items F.entry_dict_items rfl (PySem.evalArgs_none ⟨rfl, hm.dictOf.typeIs, F.args_dict_items_1 _, _, meets_dict_items (optKind X.prog X.w) d hs, ⟨vs, hm.dictOf⟩, fin⟩)
end
theorem walk_itemsN {P : Program} {w : World} {d : Addr} {o : Obj} {kvs : List (Option Int × V)} : Walk (ItiN P w d o kvs) kvs.length (fun H => H d = some (.frz o (NDict P w d kvs))) (YPair (fun i => (kvs[i]?).map fun p => nV p.1) (fun i => (kvs[i]?).map (·.2))) where
  goes := fun i H hi h => ⟨h, hi⟩
  stops := fun H h => ⟨h, Nat.le_refl _⟩
  yields := fun i H v H' hi h y => by
    obtain ⟨T, k, x, e, rfl, hT, rfl⟩ := y
    exact ⟨T, _, _, rfl, hT, rfl, by simp only [e]; rfl, by simp only [e]; rfl⟩
end Kl

/-! ## KlRules2 -/
namespace Kl
open PySem PySem.Spec PyProof.Rows L2
section
variable {X : Cx} {pins : List (Addr × Obj)} {σ : L2.St} {H : Hp} {s : Shared}
/-- the same context one C call further in -/
theorem Cx.Ok.inner (ok : X.Ok) : ({ X with A := X.A.in1 } : Cx).Ok :=
  ⟨ok.mod, ok.kind, ok.glob, ok.blt, ok.above, ok.inj, ok.has, ok.cab, ok.hd, ok.frames, ok.stk, ok.exf, ok.bs, ok.bsz, ok.noex, ok.exfs, ok.funs, ok.frf⟩
theorem Cx.Ok.outer (ok : ({ X with A := X.A.in1 } : Cx).Ok) : X.Ok :=
  ⟨ok.mod, ok.kind, ok.glob, ok.blt, ok.above, ok.inj, ok.has, ok.cab, ok.hd, ok.frames, ok.stk, ok.exf, ok.bs, ok.bsz, ok.noex, ok.exfs, ok.funs, ok.frf⟩
theorem Inv.inner (I : Inv X pins σ H s) : Inv ({ X with A := X.A.in1 } : Cx) pins σ H s := ⟨Cx.Ok.inner I.ok, I.os, I.bare, I.base, I.loc, I.cell, I.free, I.freeC, I.pin, I.hok, I.len⟩
theorem Inv.outer (I : Inv ({ X with A := X.A.in1 } : Cx) pins σ H s) : Inv X pins σ H s := ⟨Cx.Ok.outer I.ok, I.os, I.bare, I.base, I.loc, I.cell, I.free, I.freeC, I.pin, I.hok, I.len⟩
end
/-- int keys, int values, as a dict -/
abbrev kI (p : Int × Int) : Key × V := (Sum.inl p.1, .int p.2)
def tSortedItems (te : TE) : TE := fun σ H Q => te σ H fun x H1 => ∃ (d : Addr) (ps : List (Int × Int)), x = .ref d ∧ H1 d = some (.dK (ps.map kI)) ∧
  ∀ (H2 : Hp) (l : Addr) (as : List Addr) (qs : List (Int × Int)), Same H1 H2 → H1 l = none → qs.Perm ps → H2 l = some (.lst (as.map V.ref)) → Paired (fun (a : Addr) (q : Int × Int) => H2 a = some (.tup [.int q.1, .int q.2])) as qs → Q (.ref l) H2
def tupOf (H : Hp) (x : V) : Int × Int := match x with
  | .ref a => match H a with
    | some (.tup [.int i, .int j]) => (i, j)
    | _ => (0, 0)
  | _ => (0, 0)
theorem tupOf_is {H : Hp} {a : Addr} {i j : Int} (h : H a = some (.tup [.int i, .int j])) : tupOf H (.ref a) = (i, j) := by
  unfold tupOf
  simp only [h]
theorem paired_map {H : Hp} : ∀ (vs : List V), (∀ v ∈ vs, ∃ a, v = V.ref a ∧ H a = some (.tup [.int (tupOf H v).1, .int (tupOf H v).2])) →
    ∃ as, vs = as.map V.ref ∧ Paired (fun (a : Addr) (q : Int × Int) => H a = some (.tup [.int q.1, .int q.2])) as (vs.map (tupOf H))
  | [], _ => ⟨[], rfl, .nil⟩
  | v :: vs, h => by
    obtain ⟨a, rfl, ha⟩ := h v List.mem_cons_self
    obtain ⟨as, e, p⟩ := paired_map vs fun u hu => h u (List.mem_cons_of_mem _ hu)
    exact ⟨a :: as, by rw [e]; rfl, .cons ha p⟩
section
variable {X : Cx} {e : Expr} {te : TE} {p apos cpos pos : Pos}
theorem pe_sortedItems (hg : Gl X "sorted") (hm : X.mg "sorted" = none) (he : PE X e te) (hc : X.calm = true := by rfl) (hbase : attributeBase e "items" X.env (eval e X.env) = eval e X.env := by rfl) (hline : (apos.endLine == cpos.line) = true := by rfl)
    (hs : starEach [.Call (.Attribute e "items" apos) [] [] cpos] X.env = (false, eval (.Call (.Attribute e "items" apos) [] [] cpos) X.env) :: starEach [] X.env := by rfl) :
    PE X (.Call (.Name "sorted" p) [.Call (.Attribute e "items" apos) [] [] cpos] [] pos) (tSortedItems te) := by
  refine ⟨fun pins s σ H Q I hq => ?_⟩
  refine Call_ (ld_blt I hg hm boot_sorted ?_)
  refine PyProof.Rows.callWith_builtin1 (PyProof.Rows.args_cons ?_ hs) hs rfl
  refine wpAny_Call_method (T := "dict") (id := "dict.items") hbase rfl hline F.plainAttrs_dict F.slot_dict_items F.type_dict_items (thn (he.run pins s σ H _ I hq) fun u s1 ⟨x, H1, I1, rx, d, ps, ex, hd, q⟩ => ?_)
  subst ex
  obtain rfl : u = Value.ref d := rx
  obtain ⟨hz, hs0, vs, kv, hdo⟩ := I1.hok d _ hd
  obtain ⟨o, es, ep, ho, hx, hdt, hko, hpr, hnd⟩ := id hdo
  have lk : (ps.map kI).length = vs.length := Paired.length kv
  rw [List.length_map] at lk hz
  have les : es.size = ps.length := by
    have := hpr.length
    rw [Array.length_toList] at this
    omega
  refine ⟨hdo.typeIs, hdo.mapOf.noDict, ?_⟩
  show wpAny _ _ (callWith cpos (.builtin "dict.items") [.ref d] [] []) _ X.xe s1
  refine method_meetsIn F.slot_dict_items F.entry_dict_items rfl (PySem.evalArgs_none ⟨rfl, hdo.typeIs, F.args_dict_items_1 _, _, meets_dict_items (mixKind X.prog X.w) d hs0, ⟨vs, hdo⟩, ?_⟩)
  refine PyProof.Rows.args_nil ?_
  have I2 : Inv X pins σ H1 { s1 with heap := s1.heap.push { cls := .type "dict_items", data := .fields #[.ref d] } } := I1.kept (t' := s1.toks) fun b ob q => Heap.get?_push_of_some _ q
  generalize hs2 : ({ s1 with heap := s1.heap.push { cls := .type "dict_items", data := .fields #[.ref d] } } : Shared) = s2 at I2 ⊢
  have hview : s2.heap.IsItemsView s1.heap.objs.size d := by rw [← hs2]; exact ⟨_, Heap.get?_push_size _ rfl, rfl, rfl⟩
  have hraw : DT.Raw s2.heap d es ep := by rw [← hs2]; exact ⟨o, Heap.get?_push_of_some _ ho, hx, hdt⟩
  refine DT.sortedI (es := es) (ep := ep) (I1.ok.hd hc) hview hraw (by omega) fun h' tk as hk hlt hl hG => ?_
  have I3 : Inv X pins σ H1 { s2 with heap := h', toks := tk } := I2.kept (t' := tk) hk
  have nd : as.Nodup := List.Pairwise.imp (fun h => Nat.ne_of_lt h) hG.rise
  -- each new tuple is a pair
  have pr : ∀ (j : Nat) (b : Addr), as[j]? = some b → ∃ z : Int × Int, ps[j]? = some z ∧ ∀ H2, ObjOk X.prog X.w H2 h' b (.tup [.int z.1, .int z.2]) := by
    intro j b hj
    obtain ⟨en, hen, hg'⟩ := hG.pairs j b hj
    have hjl : j < ps.length := by
      have := (Array.getElem?_eq_some_iff.mp hen).1
      omega
    have hz' : ps[j]? = some ps[j] := List.getElem?_eq_getElem hjl
    have hkz : (ps.map kI)[j]? = some (Sum.inl ps[j].1, V.int ps[j].2) := by rw [List.getElem?_map, hz']; rfl
    obtain ⟨u, hu, ru⟩ := kv_get kv hkz
    have hp := hpr.get? (i := j) (by rw [Array.getElem?_toList]; exact hen) hu
    obtain ⟨k1, k2⟩ := hp
    obtain ⟨t1, e1⟩ := relV_key (show keyIs (Sum.inl ps[j].1) en.key = true from k1)
    obtain ⟨t2, e2⟩ := ru
    refine ⟨ps[j], hz', fun H2 => ⟨by show 2 ≤ sizeLine; decide, [en.key, en.val], ?_, ⟨_, hg', rfl, _, rfl⟩⟩⟩
    exact .cons ⟨t1, e1⟩ (.cons ⟨t2, k2.trans e2⟩ .nil)
  obtain ⟨H2, I4, g2, a2⟩ := DX.takeT (P := fun a ws => ∃ (j : Nat) (z : Int × Int), as[j]? = some a ∧ ps[j]? = some z ∧ ws = [V.int z.1, V.int z.2]) I2 as H1 I3 nd fun a ha => by
    obtain ⟨j, hj⟩ := List.mem_iff_getElem?.mp ha
    obtain ⟨z, hz1, hz2⟩ := pr j a hj
    have hlo : s2.heap.objs.size < a := hG.above a ha
    exact ⟨Nat.le_of_lt hlo, I2.hok.fresh (Nat.le_of_lt hlo), _, ⟨j, z, hj, hz1, rfl⟩, hz2⟩
  -- the new list
  have hfr : H2 h'.objs.size = none := I4.hok.fresh (Nat.le_refl _)
  have hasl : as.length ≤ sizeLine := by omega
  have I5 : Inv X pins σ (upd H2 h'.objs.size (.lst (as.map V.ref))) { s2 with heap := h'.push { cls := .type "list", data := .seq (as.map Value.ref).toArray }, toks := tk } :=
    I4.laid (t' := tk) (fun b ob q => Heap.get?_push_of_some _ q) (Nat.le_refl _) ⟨by rw [List.length_map]; exact hasl, as.map Value.ref, 0, LiI.vals_refs as, Heap.get?_push_size _ rfl⟩
  have at2 : ∀ a ∈ as, ∃ z : Int × Int, (upd H2 h'.objs.size (.lst (as.map V.ref))) a = some (.tup [.int z.1, .int z.2]) := fun a ha => by
    obtain ⟨ws, ⟨j, z, _, _, rfl⟩, hw⟩ := a2 a ha
    exact ⟨z, by rw [upd_ne (ne_of_none hw hfr)]; exact hw⟩
  generalize hH3 : upd H2 h'.objs.size (.lst (as.map V.ref)) = H3 at I5 at2
  have s3 : Same H2 H3 := fun b u q => by rw [← hH3, upd_ne (ne_of_none q hfr)]; exact q
  have hl3 : H3 h'.objs.size = some (.lst (as.map V.ref)) := by rw [← hH3, upd_same]
  have sorted := mt_sortPO (X := { X with A := X.A.in1 }) pins _ σ H3 (.ref h'.objs.size) [] (.ref h'.objs.size) [] (fun v H4 => v = .non ∧ ∃ zs : List V, zs.Perm (as.map V.ref) ∧ H4 = upd H3 h'.objs.size (.lst zs)) (Inv.inner I5) rfl .nil
    ⟨h'.objs.size, as.map V.ref, tupOf H3, rfl, rfl, hl3, fun y hy => by
      obtain ⟨a, ha, rfl⟩ := List.mem_map.mp hy
      obtain ⟨z, hz'⟩ := at2 a ha
      exact ⟨a, rfl, by rw [tupOf_is hz']; exact hz'⟩, fun zs h1 h2 => ⟨rfl, zs, h2.perm, rfl⟩⟩
  refine wpAny_mono sorted (fun v s' ⟨x, H4, I6, rx, _, zs, pz, eH⟩ => ?_) fun _ _ h => h
  have I7 := Inv.outer I6
  refine ⟨.ref h'.objs.size, H4, I7, rfl, ?_⟩
  have g4 : ∀ b u, H2 b = some u → H4 b = some u := fun b u q => by rw [eH, upd_ne (ne_of_none q hfr)]; exact s3 b u q
  have al : ∀ v ∈ as.map V.ref, ∃ a, v = V.ref a ∧ H4 a = some (.tup [.int (tupOf H4 v).1, .int (tupOf H4 v).2]) := fun v hv => by
    obtain ⟨a, ha, rfl⟩ := List.mem_map.mp hv
    obtain ⟨ws, ⟨j, z, _, _, rfl⟩, hw⟩ := a2 a ha
    have := g4 a _ hw
    exact ⟨a, rfl, by rw [tupOf_is this]; exact this⟩
  obtain ⟨bs, eb, pb⟩ := paired_map zs fun v hv => al v (pz.mem_iff.mp hv)
  have em : (as.map V.ref).map (tupOf H4) = ps := by
    apply List.ext_getElem?
    intro j
    rw [List.getElem?_map, List.getElem?_map]
    cases hj : as[j]? with
    | none =>
      have : ps.length ≤ j := by
        have := List.getElem?_eq_none_iff.mp hj
        omega
      rw [List.getElem?_eq_none_iff.mpr this]
      rfl
    | some a =>
      obtain ⟨z, hz1, _⟩ := pr j a hj
      obtain ⟨ws, ⟨j', z', hj', hz1', rfl⟩, hw⟩ := a2 a (List.mem_of_getElem? hj)
      have ejj : j' = j := nd_ix nd hj' hj
      subst ejj
      rw [hz1'] at hz1
      rw [hz1']
      show some (tupOf H4 (.ref a)) = some z'
      rw [tupOf_is (g4 a _ hw)]
  refine q H4 h'.objs.size bs (zs.map (tupOf H4)) (fun b u hb => g4 b u (g2 b u hb)) ?_ ?_ ?_ pb
  · exact I2.hok.fresh (Nat.le_of_lt hlt)
  · rw [← em]
    exact pz.map _
  · rw [eH, upd_same, eb]
/-! list(d.values()) -/
def tListVals (te : TE) : TE := fun σ H Q => te σ H fun x H1 => ∃ (d : Addr) (ps : List (Int × Int)), x = .ref d ∧ H1 d = some (.dK (ps.map kI)) ∧ ∀ l, H1 l = none → Q (.ref l) (upd H1 l (.lst (ps.map fun p => V.int p.2)))
theorem pe_listVals (hg : Gl X "list") (hm : X.mg "list" = none) (he : PE X e te) (hc : X.calm = true := by rfl) (hbase : attributeBase e "values" X.env (eval e X.env) = eval e X.env := by rfl) (hline : (apos.endLine == cpos.line) = true := by rfl)
    (hs : starEach [.Call (.Attribute e "values" apos) [] [] cpos] X.env = (false, eval (.Call (.Attribute e "values" apos) [] [] cpos) X.env) :: starEach [] X.env := by rfl) :
    PE X (.Call (.Name "list" p) [.Call (.Attribute e "values" apos) [] [] cpos] [] pos) (tListVals te) := by
  refine ⟨fun pins s σ H Q I hq => ?_⟩
  refine Call_ (ld_blt I hg hm boot_list ?_)
  refine PyProof.Rows.callWith_type1 (PyProof.Rows.args_cons ?_ hs) hs rfl
  refine wpAny_Call_method (T := "dict") (id := "dict.values") hbase rfl hline F.plainAttrs_dict F.slot_dict_values F.type_dict_values (thn (he.run pins s σ H _ I hq) fun u s1 ⟨x, H1, I1, rx, d, ps, ex, hd, q⟩ => ?_)
  subst ex
  obtain rfl : u = Value.ref d := rx
  obtain ⟨hz, hs0, vs, kv, hdo⟩ := I1.hok d _ hd
  obtain ⟨ep, hat⟩ := hdo.dictAt
  have lk : (ps.map kI).length = vs.length := Paired.length kv
  rw [List.length_map] at lk hz
  refine ⟨hdo.typeIs, hdo.mapOf.noDict, ?_⟩
  show wpAny _ _ (callWith cpos (.builtin "dict.values") [.ref d] [] []) _ X.xe s1
  refine method_meetsIn F.slot_dict_values F.entry_dict_values rfl (PySem.evalArgs_none ⟨rfl, hdo.typeIs, F.args_dict_values_1 _, _, meets_dict_values (mixKind X.prog X.w) d hs0, ⟨vs, hdo⟩, ?_⟩)
  refine PyProof.Rows.args_nil ?_
  have I2 : Inv X pins σ H1 { s1 with heap := s1.heap.push { cls := .type "dict_values", data := .fields #[.ref d] } } := I1.kept (t' := s1.toks) fun b ob q => Heap.get?_push_of_some _ q
  refine PySem.W.kdl_call (PySem.W.kdl_values (knd := mixKind X.prog X.w) (kvs := vs) (ep := ep)) (I1.ok.hd hc) ⟨⟨_, Heap.get?_push_size _ rfl, rfl, rfl⟩, hat.push _⟩ (by omega) fun h' tk acc c hk hS hacc => ?_
  have hv : Vals (ps.map fun p => V.int p.2) acc.toList := by
    have hl : acc.toList.length = ps.length := by
      rw [Array.length_toList, hacc.1]
      omega
    clear hS hk hat hdo hd q hq
    have at_ : ∀ (i : Nat) (v : Value), acc.toList[i]? = some v → ∃ z : Int × Int, ps[i]? = some z ∧ RelV (.int z.2) v := fun i v hv => by
      obtain ⟨k, hk⟩ := hacc.2 i v (by rw [← Array.getElem?_toList]; exact hv)
      have hi : i < ps.length := by
        have := (List.getElem?_eq_some_iff.mp hk).1
        omega
      have hz' : ps[i]? = some ps[i] := List.getElem?_eq_getElem hi
      obtain ⟨u, hu, ru⟩ := kv_get kv (i := i) (k := Sum.inl ps[i].1) (v := .int ps[i].2) (by rw [List.getElem?_map, hz']; rfl)
      rw [hk] at hu
      cases hu
      exact ⟨_, hz', ru⟩
    generalize acc.toList = l at hl at_
    clear lk hz kv hacc
    induction ps generalizing l with
    | nil =>
      cases l with
      | nil => exact .nil
      | cons _ _ => cases hl
    | cons z ps ih =>
      cases l with
      | nil => cases hl
      | cons v l =>
        obtain ⟨z', e1, e2⟩ := at_ 0 v rfl
        cases e1
        exact .cons e2 (ih l (Nat.succ.inj hl) fun i v hv => at_ (i + 1) v hv)
  exact ⟨.ref _, _, I2.laid (t' := tk) (o := .lst (ps.map fun p => V.int p.2)) hk (Nat.le_refl _) ⟨by rw [List.length_map]; omega, acc.toList, c, hv, by rw [Array.toArray_toList]; exact hS⟩, rfl, q _ (I2.hok.fresh (Nat.le_refl _))⟩
end
end Kl

/-! ## KlIter -/
namespace Kl
open PySem PySem.Spec PyProof.Rows L2
/-! ### sources: what an iterator at it draws, by the abstract heap -/
structure ISrc (P : Program) (w : World) (K : PySem.W.Frag) (it : Addr) (len : Hp → Nat → Prop) (at_ : Hp → Nat → V → Prop) (tn : Nat → Heap → Prop) : Prop where
  obj : ∀ i h, tn i h → ∃ o, h.get? it = some o ∧ ∀ v, o.data ≠ .cell v
  keep : ∀ i h h', tn i h → (∀ o, h.get? it = some o → h'.get? it = some o) → tn i h'
  drw : ∀ (X : Cx), X.prog = P → X.w = w → X.K = K → X.calm = true → ∀ (pins : List (Addr × Obj)) (σ : L2.St) (H : Hp) (s : Shared) (n i : Nat), Inv X pins σ H s → H it = none → len H n → tn i s.heap →
    ∃ (fp : List Addr) (Pv : Nat → Value → Prop) (St : Nat → Heap → Prop), it ∈ fp ∧ (∀ b ∈ fp, b = it ∨ H b ≠ none) ∧ Draws P w X.A.in1 it fp n Pv St ∧ St i s.heap ∧ (∀ j h, St j h → tn j h) ∧ ∀ v, Pv i v → ∃ x, RelV x v ∧ at_ H i x
theorem src_str {P : Program} {w : World} {K : PySem.W.Frag} (it : Addr) (z : Str) (t : Tok) :
    ISrc P w K it (fun _ n => n = z.length) (fun _ i x => ∃ c, z.cps[i]? = some c ∧ x = .str ⟨#[c]⟩) (fun i h => h.IsStrIter it (strIterType z) z t i) where
  obj := fun i h ⟨o, ho, hc, hd⟩ => ⟨o, ho, fun v q => by rw [hd] at q; cases q⟩
  keep := fun i h h' ⟨o, ho, hc, hd⟩ k => ⟨o, k o ho, hc, hd⟩
  drw := fun X hP hw hK hc pins σ H s n i I hn hl st => by
    subst hP hw hl
    exact ⟨[it], _, _, List.mem_singleton.mpr rfl, fun b hb => .inl (List.mem_singleton.mp hb), Draws.text (A := X.A.in1) (show X.A.in1.handled = Option.none from I.ok.hd hc) it z t, st, fun j h q => q, fun v ⟨c, u, e, ev⟩ => ⟨.str ⟨#[c]⟩, ⟨u, ev⟩, c, e, rfl⟩⟩
theorem src_tup {P : Program} {w : World} {K : PySem.W.Frag} (it a : Addr) :
    ISrc P w K it (fun H n => ∃ xs, H a = some (.tup xs) ∧ n = xs.length) (fun H i x => ∀ xs, H a = some (.tup xs) → xs[i]? = some x) (fun i h => h.IsTupleIter it a i) where
  obj := fun i h ⟨o, ho, hc, hd⟩ => ⟨o, ho, fun v q => by rw [hd] at q; cases q⟩
  keep := fun i h h' ⟨o, ho, hc, hd⟩ k => ⟨o, k o ho, hc, hd⟩
  drw := fun X hP hw hK hc pins σ H s n i I hn hl st => by
    subst hP hw
    obtain ⟨xs, ha, rfl⟩ := hl
    obtain ⟨its, rv, p, _⟩ := I.tuple (SqT.of ha)
    have hne : a ≠ it := ne_of_none ha hn
    have el : xs.length = its.toArray.size := by rw [rv.length]; simp
    rw [el]
    refine ⟨[it, a], _, _, List.mem_cons_self, fun b hb => ?_, Draws.tuple (A := X.A.in1) (show X.A.in1.handled = Option.none from I.ok.hd hc) it a hne its.toArray, ⟨st, p⟩, fun j h q => q.1, fun v e => ?_⟩
    · rcases List.mem_cons.mp hb with z | z
      · exact .inl z
      · exact .inr (by rw [List.mem_singleton.mp z, ha]; exact fun q => nomatch q)
    · have e' : its[i]? = some v := by simpa using e
      cases hx : xs[i]? with
      | none => rw [rv.none_of hx] at e'; cases e'
      | some x =>
        obtain ⟨u, hu, ru⟩ := rv.get hx
        rw [hu] at e'; cases e'
        exact ⟨x, ru, fun ys hy => by rw [ha] at hy; cases hy; exact hx⟩
theorem src_lst {P : Program} {w : World} {K : PySem.W.Frag} (it a : Addr) :
    ISrc P w K it (fun H n => ∃ xs, H a = some (.lst xs) ∧ n = xs.length) (fun H i x => ∀ xs, H a = some (.lst xs) → xs[i]? = some x) (fun i h => h.IsListIter it a i) where
  obj := fun i h ⟨o, ho, hc, hd⟩ => ⟨o, ho, fun v q => by rw [hd] at q; cases q⟩
  keep := fun i h h' ⟨o, ho, hc, hd⟩ k => ⟨o, k o ho, hc, hd⟩
  drw := fun X hP hw hK hc pins σ H s n i I hn hl st => by
    subst hP hw
    obtain ⟨xs, ha, rfl⟩ := hl
    obtain ⟨its, rv, p, _⟩ := I.list (SqL.of ha)
    have hne : a ≠ it := ne_of_none ha hn
    have el : xs.length = its.toArray.size := by rw [rv.length]; simp
    rw [el]
    refine ⟨[it, a], _, _, List.mem_cons_self, fun b hb => ?_, Draws.list (A := X.A.in1) (show X.A.in1.handled = Option.none from I.ok.hd hc) it a hne its.toArray, ⟨st, p.isList⟩, fun j h q => q.1, fun v e => ?_⟩
    · rcases List.mem_cons.mp hb with z | z
      · exact .inl z
      · exact .inr (by rw [List.mem_singleton.mp z, ha]; exact fun q => nomatch q)
    · have e' : its[i]? = some v := by simpa using e
      cases hx : xs[i]? with
      | none => rw [rv.none_of hx] at e'; cases e'
      | some x =>
        obtain ⟨u, hu, ru⟩ := rv.get hx
        rw [hu] at e'; cases e'
        exact ⟨x, ru, fun ys hy => by rw [ha] at hy; cases hy; exact hx⟩
/-! ### enumerate -/
def IteG (len : Hp → Nat → Prop) (at_ : Hp → Nat → V → Prop) : It :=
  ⟨fun i H => ∃ n, len H n ∧ i < n, fun i H v H' => ∃ T x, v = .ref T ∧ H T = none ∧ H' = upd H T (.tup [.int (i : Nat), x]) ∧ at_ H i x, fun i H => len H i⟩
theorem turn_enumG {P : Program} {w : World} {K : PySem.W.Frag} {elts : List Expr} {kk : Nat} {tpos : Pos} {e it : Addr} {len : Hp → Nat → Prop} {at_ : Hp → Nat → V → Prop} {tn : Nat → Heap → Prop} (S : ISrc P w K it len at_ tn) (hne : e ≠ it) :
    Turn P w K (.Tuple elts kk tpos) (IteG len at_) [e, it] e (fun i h => (∃ old, IsEnum h e it ((i : Nat) : Int) old) ∧ tn i h) where
  mem := by simp
  obj := fun i h st b hb => by
    obtain ⟨⟨old, he⟩, ht⟩ := st
    have e' : b = e ∨ b = it := by simpa using hb
    rcases e' with z | z
    · rw [z]; exact ⟨_, he, fun v q => nomatch q⟩
    · rw [z]; exact S.obj i h ht
  keep := fun i h h' st k => let ⟨⟨old, he⟩, ht⟩ := st; ⟨⟨old, k e (by simp) _ he⟩, S.keep i h h' ht fun o q => k it (by simp) o q⟩
  item := by
    intro X hP hw hK hc i pins s σ H E I hf st hg
    obtain ⟨⟨old, he⟩, ht⟩ := st
    obtain ⟨n, hl, hlt⟩ := hg
    obtain ⟨fp, Pv, St, m1, m2, D, st0, sk, hv⟩ := S.drw X hP hw hK hc pins σ H s n i I (hf it (by simp)).1 hl ht
    subst hP hw hK
    have hel : e < s.heap.objs.size := Heap.lt_size he
    have hil : it < s.heap.objs.size := by obtain ⟨o, q, _⟩ := S.obj i _ ht; exact Heap.lt_size q
    have hef : e ∉ fp := fun hb => by
      rcases m2 e hb with z | z
      · exact hne z
      · exact z (hf e (by simp)).1
    refine wpAny_pyNext_enum_itemC D he st0 hlt hne hef fun u h' tk pu ho st1 hT hsz hk => ?_
    obtain ⟨x, ru, hx⟩ := hv u pu
    refine ⟨_, rfl, wpAny_letOwnedTupleGo_enum (s := { s with heap := h', toks := tk + 1 }) ho fun h'' he' sb => ?_⟩
    have hT2 : h''.get? s.heap.objs.size = some { cls := .type "tuple", data := .seq #[.int i tk, u] } := (sb.2 _ (Nat.ne_of_gt hel)).trans hT
    have new : ObjOk X.prog X.w (upd H s.heap.objs.size (.tup [.int (i : Nat), x])) h'' s.heap.objs.size (.tup [.int (i : Nat), x]) :=
      ⟨by show 2 ≤ sizeLine; decide, [.int i tk, u], .cons ⟨_, rfl⟩ (.cons ru .nil), ⟨_, hT2, rfl, _, rfl⟩⟩
    have I1 : Inv X pins σ (upd H s.heap.objs.size (.tup [.int (i : Nat), x])) { s with heap := h'', toks := tk + 1 } :=
      I.turnedNew (ch := [e, it]) (fun b ob hb q => (sb.2 b (fun z => hb (by simp [z]))).trans (hk b ob (fun z => hb (by simp [z])) (fun z => hb (by simp [z])) q)) hf (Nat.le_refl _) new
    refine ⟨.ref s.heap.objs.size, _, I1, rfl, ⟨_, x, rfl, I.hok.fresh (Nat.le_refl _), rfl, hx⟩, ⟨⟨u, ?_⟩, S.keep _ _ _ (sk _ _ st1) fun o q => (sb.2 it (Ne.symm hne)).trans q⟩, fun b hb => ?_⟩
    · have e1 : ((i + 1 : Nat) : Int) = (i : Int) + 1 := by omega
      rw [e1]; exact he'
    · have hb' : b < s.heap.objs.size := by
        have e' : b = e ∨ b = it := by simpa using hb
        rcases e' with z | z
        · rw [z]; exact hel
        · rw [z]; exact hil
      rw [upd_ne (Nat.ne_of_lt hb')]
      exact (hf b hb).1
  done := by
    intro X hP hw hK hc i pins s σ H E I hf st hg
    obtain ⟨⟨old, he⟩, ht⟩ := st
    obtain ⟨fp, Pv, St, m1, m2, D, st0, sk, hv⟩ := S.drw X hP hw hK hc pins σ H s i i I (hf it (by simp)).1 hg ht
    subst hP hw hK
    obtain ⟨f0, f1, f2, f3, f4, f5⟩ := hf it (by simp)
    exact wpAny_pyNext_enum_endD D he st0 fun h' eb => ⟨rfl, I.turned (t' := s.toks) (fun b o hb q => eb b o hb q) f0 f1 f3 f4 f5⟩
  self := fun A i s Q E st h => let ⟨⟨_, he⟩, _⟩ := st; wpAny_pyIter_enum he h
set_option maxHeartbeats 4000000 in
theorem meets_enum_new1 {v : Value} {o : Obj} {H : Heap → Prop} (B : Begins v o H) :
    Meets (Builtin.«enumerate.__new__» ⟨[.type "enumerate", v], []⟩) (fun _ R s => H s.heap ∧
      R (.ok (.ret (.ref (s.heap.push o).objs.size))) { s with heap := (s.heap.push o).push { cls := .type "enumerate", data := .fields #[.none, .bool false, .ref s.heap.objs.size, rawInt 0, .none, .none] } }) :=
  .of_wp fun prog w A R s h => by
    obtain ⟨hp, g, d, tk, os⟩ := s; obtain ⟨h1, h⟩ := h
    have hsub := sub_enumerate
    have q1 : ∀ {A' : Around} {E : Value → Shared → Prop} {Q : Value → Shared → Prop}, Q (.ref hp.objs.size) ⟨hp.push o, g, d, tk, os⟩ → wpAny (model prog w) A' (pyIter v) Q E ⟨hp, g, d, tk, os⟩ :=
      fun q => B.iter prog w _ _ ⟨hp, g, d, tk, os⟩ _ h1 q
    wp_walk using q1
    refine wpAny_stack_any fun st => wpAny_pure ?_
    split
    · rename_i c _ _ _ _ _
      cases (c == Value.type "enumerate")
      · wp_walk using q1
        exact ⟨_, rfl, h⟩
      · wp_walk using q1
        exact ⟨_, rfl, h⟩
    · wp_walk using q1
      exact ⟨_, rfl, h⟩
theorem enum_begins1 {prog : Program} {w : World} {A : Around} {E : Value → Shared → Prop} {s : Shared} {v : Value} {o : Obj} {H : Heap → Prop} {Q : Value → Shared → Prop} (B : Begins v o H) (h1 : H s.heap)
    (h : ∀ h', IsEnum h' (s.heap.objs.size + 1) s.heap.objs.size 0 .none → h'.get? s.heap.objs.size = some o → h'.objs.size = s.heap.objs.size + 2 →
      (∀ b o, s.heap.get? b = some o → h'.get? b = some o) → Q (.ref (s.heap.objs.size + 1)) { s with heap := h' }) :
    wpAny (model prog w) A (call (.type "enumerate") [v]) Q E s := by
  refine callType_new F.called_enumerate (by decide) (F.typeCall_enumerate_1 _) (F.newCall_enumerate_1 _) (fun obj => F.args_object_init_2 obj _) F.entry_enumerate_new
    (meets_enum_new1 B) ⟨h1, ?_⟩
  have hz : (s.heap.push o).objs.size = s.heap.objs.size + 1 := Heap.size_push ..
  show _ ∧ _
  rw [hz]
  have he : IsEnum ((s.heap.push o).push { cls := .type "enumerate", data := .fields #[.none, .bool false, .ref s.heap.objs.size, rawInt 0, .none, .none] }) (s.heap.objs.size + 1) s.heap.objs.size 0 .none := by
    have := Heap.get?_push_size (s.heap.push o) (o := { cls := .type "enumerate", data := .fields #[.none, .bool false, .ref s.heap.objs.size, rawInt 0, .none, .none] }) rfl
    rw [hz] at this; exact this
  refine ⟨⟨_, he, rfl⟩, h _ he (Heap.get?_push_of_some _ (Heap.get?_push_size _ B.free)) (by rw [Heap.size_push, hz]) fun b o x => Heap.get?_push_of_some _ (Heap.get?_push_of_some _ x)⟩
abbrev IteT (a : Addr) : It := IteG (fun H n => ∃ xs, H a = some (.tup xs) ∧ n = xs.length) (fun H i x => ∀ xs, H a = some (.tup xs) → xs[i]? = some x)
def iEnumT (ta : TA) : TI := fun σ H R => ta σ H fun vs H1 => ∃ a xs, vs = [.ref a] ∧ H1 a = some (.tup xs) ∧ R (IteT a) H1
theorem pi_enumT {X : Cx} {e : Expr} {ta : TA} {p pos tpos : Pos} {elts : List Expr} {kk : Nat} (hg : Gl X "enumerate") (hm : X.mg "enumerate" = none) (ha : PA X [e] ta) (hs : starEach [e] X.env = [(false, eval e X.env)] := by rfl) :
    PI X (.Tuple elts kk tpos) (.Call (.Name "enumerate" p) [e] [] pos) (iEnumT ta) := by
  refine ⟨fun pins s σ H R I h => ?_⟩
  refine Call_ (ld_blt I hg hm boot_enumerate (PyProof.Rows.callWith_type1 (thn (ha.run pos pins s σ H _ I h) fun us s1 ⟨vs, H1, I1, r1, q1⟩ => ?_) hs rfl))
  obtain ⟨a, xs, ex, hq, q⟩ := q1
  subst ex
  cases r1 with
  | cons r rr =>
    cases rr
    cases r
    obtain ⟨its, rv, p', hz⟩ := I1.tuple (SqT.of hq)
    refine enum_begins1 (begins_tuple a its.toArray) p' fun h' he hit hsz hk => wpAny_pyIter_enum he ?_
    have I2 : Inv X pins σ H1 { s1 with heap := h' } := I1.kept (t' := s1.toks) hk
    refine ⟨s1.heap.objs.size + 1, [s1.heap.objs.size + 1, s1.heap.objs.size], _, _, H1, rfl, I2, turn_enumG (src_tup s1.heap.objs.size a) (Nat.succ_ne_self _), ⟨⟨.none, he⟩, ⟨_, hit, rfl, rfl⟩⟩, fun b hb => ?_, q⟩
    have e' : b = s1.heap.objs.size + 1 ∨ b = s1.heap.objs.size := by simpa using hb
    have hle : s1.heap.objs.size ≤ b := by
      rcases e' with z | z
      · rw [z]; exact Nat.le_add_right _ _
      · rw [z]; exact Nat.le_refl _
    exact I1.fpOk hle (I1.hok.fresh hle)
theorem walk_enumT {a : Addr} {xs : List V} : Walk (IteT a) xs.length (fun H => H a = some (.tup xs)) (YPair (fun i => some (.int (i : Nat))) (fun i => xs[i]?)) where
  goes := fun i H hi h => ⟨xs.length, ⟨xs, h, rfl⟩, hi⟩
  stops := fun H h => ⟨xs, h, rfl⟩
  yields := fun i H v H' hi h y => by
    obtain ⟨T, x, rfl, hT, rfl, f⟩ := y
    exact ⟨T, _, x, rfl, hT, rfl, rfl, f xs h⟩
/-! ### zip -/
def ItzG (len1 : Hp → Nat → Prop) (at1 : Hp → Nat → V → Prop) (len2 : Hp → Nat → Prop) (at2 : Hp → Nat → V → Prop) : It :=
  ⟨fun i H => ∃ n m, len1 H n ∧ len2 H m ∧ i < n ∧ i < m, fun i H v H' => ∃ T x y, v = .ref T ∧ H T = none ∧ H' = upd H T (.tup [x, y]) ∧ at1 H i x ∧ at2 H i y,
    fun i H => ∃ n m, len1 H n ∧ len2 H m ∧ i ≤ n ∧ i ≤ m ∧ (i = n ∨ i = m)⟩
theorem turn_zipG {P : Program} {w : World} {K : PySem.W.Frag} {elts : List Expr} {kk : Nat} {tpos : Pos} {z TI TO i1 i2 : Addr} {len1 len2 : Hp → Nat → Prop} {at1 at2 : Hp → Nat → V → Prop} {tn1 tn2 : Nat → Heap → Prop} (S1 : ISrc P w K i1 len1 at1 tn1) (S2 : ISrc P w K i2 len2 at2 tn2)
    (nd : [z, TI, TO, i1, i2].Nodup) :
    Turn P w K (.Tuple elts kk tpos) (ItzG len1 at1 len2 at2) [z, TI, TO, i1, i2] z (fun i h => IsZip h z TI TO .none ∧ IsTupOf2 h TI (.ref i1) (.ref i2) ∧ (∃ x y, IsTupOf2 h TO x y) ∧ tn1 i h ∧ tn2 i h) := by
  have dTIz : TI ≠ z := by simp at nd; exact fun e => nd.1.1 e.symm
  have dTOz : TO ≠ z := by simp at nd; exact fun e => nd.1.2.1 e.symm
  have di1z : i1 ≠ z := by simp at nd; exact fun e => nd.1.2.2.1 e.symm
  have di2z : i2 ≠ z := by simp at nd; exact fun e => nd.1.2.2.2 e.symm
  have dTITO : TI ≠ TO := by simp at nd; exact nd.2.1.1
  have dTIi1 : TI ≠ i1 := by simp at nd; exact nd.2.1.2.1
  have dTIi2 : TI ≠ i2 := by simp at nd; exact nd.2.1.2.2
  have dTOi1 : TO ≠ i1 := by simp at nd; exact nd.2.2.1.1
  have dTOi2 : TO ≠ i2 := by simp at nd; exact nd.2.2.1.2
  have di12 : i1 ≠ i2 := by simp at nd; exact nd.2.2.2
  have sep : ∀ {H : Hp} {fp1 fp2 : List Addr}, H z = none → H TO = none → H i1 = none → H i2 = none → i1 ∈ fp1 → i2 ∈ fp2 → (∀ b ∈ fp1, b = i1 ∨ H b ≠ none) → (∀ b ∈ fp2, b = i2 ∨ H b ≠ none) → ZipSep2 z TI TO i1 i2 fp1 fp2 := fun {H fp1 fp2} hz hTO h1 h2 m1 m2 k1 k2 =>
    { TIz := dTIz, TOz := dTOz, TITO := dTITO, TIi1 := dTIi1, mem1 := m1, zf1 := fun hb => (k1 z hb).elim (fun e => di1z e.symm) (fun q => q hz), Tf1 := fun hb => (k1 TO hb).elim dTOi1 (fun q => q hTO),
      TIi2 := dTIi2, mem2 := m2, zf2 := fun hb => (k2 z hb).elim (fun e => di2z e.symm) (fun q => q hz), Tf2 := fun hb => (k2 TO hb).elim dTOi2 (fun q => q hTO),
      sep1_2 := fun hb => (k2 i1 hb).elim di12 (fun q => q h1), sep2_1 := fun hb => (k1 i2 hb).elim (fun e => di12 e.symm) (fun q => q h2) }
  refine ⟨by simp, fun i h st c hc => ?_, fun i h h' st k => ?_, ?_, ?_, fun A i s Q E st h => wpAny_pyIter_zip st.1 h⟩
  · obtain ⟨hz, hTI, ⟨x, y, hTO⟩, t1, t2⟩ := st
    have e' : c = z ∨ c = TI ∨ c = TO ∨ c = i1 ∨ c = i2 := by simpa using hc
    rcases e' with q | q | q | q | q
    · rw [q]; exact ⟨_, hz, fun v q => nomatch q⟩
    · rw [q]; exact ⟨_, hTI, fun v q => nomatch q⟩
    · rw [q]; exact ⟨_, hTO, fun v q => nomatch q⟩
    · rw [q]; exact S1.obj i h t1
    · rw [q]; exact S2.obj i h t2
  · obtain ⟨hz, hTI, ⟨x, y, hTO⟩, t1, t2⟩ := st
    exact ⟨k z (by simp) _ hz, k TI (by simp) _ hTI, ⟨x, y, k TO (by simp) _ hTO⟩, S1.keep i h h' t1 fun o q => k i1 (by simp) o q, S2.keep i h h' t2 fun o q => k i2 (by simp) o q⟩
  · intro X hP hw hK hc i pins s σ H E I hf st hg
    obtain ⟨hz, hTI, ⟨x0, y0, hTO⟩, t1, t2⟩ := st
    obtain ⟨n, m, l1, l2, lt1, lt2⟩ := hg
    have hnz := (hf z (by simp)).1
    have hnTO := (hf TO (by simp)).1
    have hn1 := (hf i1 (by simp)).1
    have hn2 := (hf i2 (by simp)).1
    obtain ⟨fp1, Pv1, St1, m1, k1, D1, st1, sk1, hv1⟩ := S1.drw X hP hw hK hc pins σ H s n i I hn1 l1 t1
    obtain ⟨fp2, Pv2, St2, m2, k2, D2, st2, sk2, hv2⟩ := S2.drw X hP hw hK hc pins σ H s m i I hn2 l2 t2
    subst hP hw hK
    have hzl : z < s.heap.objs.size := Heap.lt_size hz
    refine wpAny_pyNext_zipD2_item (sep hnz hnTO hn1 hn2 m1 m2 k1 k2) D1 D2 hz hTI hTO st1 st2 lt1 lt2 fun u u2 h' tk pu pu2 z' TO' s1' s2' hT hsz hk => ?_
    obtain ⟨x, ru, hx⟩ := hv1 u pu
    obtain ⟨y, ru2, hy⟩ := hv2 u2 pu2
    refine ⟨_, rfl, wpAny_letOwnedTupleGo_zip (s := { s with heap := h', toks := tk }) z' fun h'' z'' sb => ?_⟩
    have hT2 : h''.get? s.heap.objs.size = some { cls := .type "tuple", data := .seq #[u, u2] } := (sb.2 _ (Nat.ne_of_gt hzl)).trans hT
    have new : ObjOk X.prog X.w (upd H s.heap.objs.size (.tup [x, y])) h'' s.heap.objs.size (.tup [x, y]) :=
      ⟨by show 2 ≤ sizeLine; decide, [u, u2], .cons ru (.cons ru2 .nil), ⟨_, hT2, rfl, _, rfl⟩⟩
    have I1 : Inv X pins σ (upd H s.heap.objs.size (.tup [x, y])) { s with heap := h'', toks := tk } :=
      I.turnedNew (t' := tk) (ch := [z, TI, TO, i1, i2]) (fun c o hb q => (sb.2 c (fun q' => hb (by simp [q']))).trans (hk c o (fun q' => hb (by simp [q'])) (fun q' => hb (by simp [q'])) (fun q' => hb (by simp [q'])) (fun q' => hb (by simp [q'])) q)) hf (Nat.le_refl _) new
    refine ⟨.ref s.heap.objs.size, _, I1, rfl, ⟨_, x, y, rfl, I.hok.fresh (Nat.le_refl _), rfl, hx, hy⟩, ⟨z'', ?_, ⟨u, u2, ?_⟩, ?_, ?_⟩, fun c hcm => ?_⟩
    · exact (sb.2 _ dTIz).trans (hk _ _ dTIz dTITO dTIi1 dTIi2 hTI)
    · exact (sb.2 _ dTOz).trans TO'
    · exact S1.keep _ _ _ (sk1 _ _ s1') fun o q => (sb.2 _ di1z).trans q
    · exact S2.keep _ _ _ (sk2 _ _ s2') fun o q => (sb.2 _ di2z).trans q
    · have hlt : c < s.heap.objs.size := by
        have e' : c = z ∨ c = TI ∨ c = TO ∨ c = i1 ∨ c = i2 := by simpa using hcm
        rcases e' with q | q | q | q | q
        · rw [q]; exact hzl
        · rw [q]; exact Heap.lt_size hTI
        · rw [q]; exact Heap.lt_size hTO
        · rw [q]; obtain ⟨_, e1, _⟩ := S1.obj _ _ t1; exact Heap.lt_size e1
        · rw [q]; obtain ⟨_, e1, _⟩ := S2.obj _ _ t2; exact Heap.lt_size e1
      rw [upd_ne (Nat.ne_of_lt hlt)]
      exact (hf c hcm).1
  · intro X hP hw hK hc i pins s σ H E I hf st hg
    obtain ⟨hz, hTI, ⟨x0, y0, hTO⟩, t1, t2⟩ := st
    obtain ⟨n, m, l1, l2, le1, le2, hend⟩ := hg
    have hnz := (hf z (by simp)).1
    have hnTO := (hf TO (by simp)).1
    have hn1 := (hf i1 (by simp)).1
    have hn2 := (hf i2 (by simp)).1
    obtain ⟨fp1, Pv1, St1, m1, k1, D1, st1, sk1, hv1⟩ := S1.drw X hP hw hK hc pins σ H s n i I hn1 l1 t1
    obtain ⟨fp2, Pv2, St2, m2, k2, D2, st2, sk2, hv2⟩ := S2.drw X hP hw hK hc pins σ H s m i I hn2 l2 t2
    subst hP hw hK
    exact wpAny_pyNext_zipD2_end (sep hnz hnTO hn1 hn2 m1 m2 k1 k2) D1 D2 hz hTI hTO st1 st2 le1 le2 hend fun h' tk hk => ⟨rfl, I.turnedL (t' := tk) (ch := [z, TI, TO, i1, i2]) (fun c o hb q =>
      hk c o (fun q' => hb (by simp [q'])) (fun q' => hb (by simp [q'])) (fun q' => hb (by simp [q'])) (fun q' => hb (by simp [q'])) q) hf⟩
theorem nd5 (N : Nat) : [N + 4, N + 2, N + 3, N, N + 1].Nodup := by
  simp
abbrev ItzSS (z y : Str) : It := ItzG (fun _ n => n = z.length) (fun _ i x => ∃ c, z.cps[i]? = some c ∧ x = .str ⟨#[c]⟩) (fun _ n => n = y.length) (fun _ i x => ∃ c, y.cps[i]? = some c ∧ x = .str ⟨#[c]⟩)
abbrev ItzSL (z : Str) (a : Addr) : It := ItzG (fun _ n => n = z.length) (fun _ i x => ∃ c, z.cps[i]? = some c ∧ x = .str ⟨#[c]⟩) (fun H n => ∃ xs, H a = some (.lst xs) ∧ n = xs.length) (fun H i x => ∀ xs, H a = some (.lst xs) → xs[i]? = some x)
theorem fresh5 {X : Cx} {pins : List (Addr × Obj)} {σ : L2.St} {H1 : Hp} {s1 : Shared} (I1 : Inv X pins σ H1 s1) : ∀ c, c ∈ [s1.heap.objs.size + 4, s1.heap.objs.size + 2, s1.heap.objs.size + 3, s1.heap.objs.size, s1.heap.objs.size + 1] → FpOk X pins H1 c := fun c hcm => by
  have e' : c = s1.heap.objs.size + 4 ∨ c = s1.heap.objs.size + 2 ∨ c = s1.heap.objs.size + 3 ∨ c = s1.heap.objs.size ∨ c = s1.heap.objs.size + 1 := by simpa using hcm
  have hle : s1.heap.objs.size ≤ c := by
    rcases e' with z | z | z | z | z
    · rw [z]; exact Nat.le_add_right _ _
    · rw [z]; exact Nat.le_add_right _ _
    · rw [z]; exact Nat.le_add_right _ _
    · rw [z]; exact Nat.le_refl _
    · rw [z]; exact Nat.le_add_right _ _
  exact I1.fpOk hle (I1.hok.fresh hle)
def iZipSS (ta : TA) : TI := fun σ H R => ta σ H fun vs H1 => ∃ z y, vs = [.str z, .str y] ∧ R (ItzSS z y) H1
theorem pi_zipSS {X : Cx} {e e2 : Expr} {ta : TA} {p pos tpos : Pos} {elts : List Expr} {kk : Nat} (hg : Gl X "zip") (hm : X.mg "zip" = none) (ha : PA X [e, e2] ta)
    (hs : starEach [e, e2] X.env = (false, eval e X.env) :: starEach [e2] X.env := by rfl) (hpl : (backTo pos (starEach [e2] X.env)).any (·.1) = false := by rfl) :
    PI X (.Tuple elts kk tpos) (.Call (.Name "zip" p) [e, e2] [] pos) (iZipSS ta) := by
  refine ⟨fun pins s σ H R I h => ?_⟩
  refine Call_ (ld_blt I hg hm PyProof.Rows.boot_zip (PyProof.Rows.callWith_type1 (thn (ha.run pos pins s σ H _ I h) fun us s1 ⟨vs, H1, I1, r1, q1⟩ => ?_) hs hpl))
  obtain ⟨z, y, ex, q⟩ := q1
  subst ex
  cases r1 with
  | cons r rr =>
    cases rr with
    | cons r' rr =>
      cases rr
      obtain ⟨t, rfl⟩ := r
      obtain ⟨t', rfl⟩ := r'
      refine zip_begins2 (begins_text z t) (begins_text y t') trivial trivial fun h' hz hTI hTO h1 h2 hsz hk => wpAny_pyIter_zip hz ?_
      have I2 : Inv X pins σ H1 { s1 with heap := h' } := I1.kept (t' := s1.toks) hk
      exact ⟨s1.heap.objs.size + 4, [s1.heap.objs.size + 4, s1.heap.objs.size + 2, s1.heap.objs.size + 3, s1.heap.objs.size, s1.heap.objs.size + 1], _, _, H1, rfl, I2,
        turn_zipG (src_str s1.heap.objs.size z t) (src_str (s1.heap.objs.size + 1) y t') (nd5 _), ⟨hz, hTI, ⟨_, _, hTO⟩, ⟨_, h1, rfl, rfl⟩, ⟨_, h2, rfl, rfl⟩⟩, fresh5 I1, q⟩
def iZipSL (ta : TA) : TI := fun σ H R => ta σ H fun vs H1 => ∃ z a xs, vs = [.str z, .ref a] ∧ H1 a = some (.lst xs) ∧ R (ItzSL z a) H1
theorem pi_zipSL {X : Cx} {e e2 : Expr} {ta : TA} {p pos tpos : Pos} {elts : List Expr} {kk : Nat} (hg : Gl X "zip") (hm : X.mg "zip" = none) (ha : PA X [e, e2] ta)
    (hs : starEach [e, e2] X.env = (false, eval e X.env) :: starEach [e2] X.env := by rfl) (hpl : (backTo pos (starEach [e2] X.env)).any (·.1) = false := by rfl) :
    PI X (.Tuple elts kk tpos) (.Call (.Name "zip" p) [e, e2] [] pos) (iZipSL ta) := by
  refine ⟨fun pins s σ H R I h => ?_⟩
  refine Call_ (ld_blt I hg hm PyProof.Rows.boot_zip (PyProof.Rows.callWith_type1 (thn (ha.run pos pins s σ H _ I h) fun us s1 ⟨vs, H1, I1, r1, q1⟩ => ?_) hs hpl))
  obtain ⟨z, a, xs, ex, hl, q⟩ := q1
  subst ex
  cases r1 with
  | cons r rr =>
    cases rr with
    | cons r' rr =>
      cases rr
      obtain ⟨t, rfl⟩ := r
      cases r'
      obtain ⟨its, rv, p1, _⟩ := I1.list (SqL.of hl)
      refine zip_begins2 (begins_text z t) (begins_list a its.toArray) trivial p1.isList fun h' hz hTI hTO h1 h2 hsz hk => wpAny_pyIter_zip hz ?_
      have I2 : Inv X pins σ H1 { s1 with heap := h' } := I1.kept (t' := s1.toks) hk
      exact ⟨s1.heap.objs.size + 4, [s1.heap.objs.size + 4, s1.heap.objs.size + 2, s1.heap.objs.size + 3, s1.heap.objs.size, s1.heap.objs.size + 1], _, _, H1, rfl, I2,
        turn_zipG (src_str s1.heap.objs.size z t) (src_lst (s1.heap.objs.size + 1) a) (nd5 _), ⟨hz, hTI, ⟨_, _, hTO⟩, ⟨_, h1, rfl, rfl⟩, ⟨_, h2, rfl, rfl⟩⟩, fresh5 I1, q⟩
def chAt (z : Str) (i : Nat) : Option V := (z.cps[i]?).map fun c => .str ⟨#[c]⟩
theorem walk_zipSS {z y : Str} {n : Nat} (hn : n = min z.length y.length) : Walk (ItzSS z y) n (fun _ => True) (YPair (chAt z) (chAt y)) where
  goes := fun i H hi _ => ⟨_, _, rfl, rfl, by omega, by omega⟩
  stops := fun H _ => ⟨_, _, rfl, rfl, by omega, by omega, by omega⟩
  yields := fun i H v H' hi _ yl => by
    obtain ⟨T, x, u, rfl, hT, rfl, ⟨c, ec, rfl⟩, ⟨d, ed, rfl⟩⟩ := yl
    exact ⟨T, _, _, rfl, hT, rfl, by unfold chAt; rw [ec]; rfl, by unfold chAt; rw [ed]; rfl⟩
theorem walk_zipSL {z : Str} {a : Addr} {xs : List V} {n : Nat} (hn : n = min z.length xs.length) : Walk (ItzSL z a) n (fun H => H a = some (.lst xs)) (YPair (chAt z) (fun i => xs[i]?)) where
  goes := fun i H hi h => ⟨_, _, rfl, ⟨xs, h, rfl⟩, by omega, by omega⟩
  stops := fun H h => ⟨_, _, rfl, ⟨xs, h, rfl⟩, by omega, by omega, by omega⟩
  yields := fun i H v H' hi h yl => by
    obtain ⟨T, x, u, rfl, hT, rfl, ⟨c, ec, rfl⟩, f⟩ := yl
    exact ⟨T, _, _, rfl, hT, rfl, by unfold chAt; rw [ec]; rfl, f xs h⟩
end Kl

/-! ## KlLib -/
namespace Kl
open PySem PySem.Spec PyProof.Rows L2
theorem same_new {H : Hp} {p : Addr} (h : H p = none) (o : HO) : Same H (upd H p o) := fun b u q => by rw [upd_ne (ne_of_none q h)]; exact q
/-- what H knows stays though something that it does not know changes -/
theorem Same.mut {H H' : Hp} {p : Addr} {o : HO} (g : Same H H') (h : H p = none) : Same H (upd H' p o) := fun b u q => by
  rw [upd_ne (ne_of_none q h)]
  exact g b u q
theorem Same.none {H H' : Hp} {p : Addr} (g : Same H H') (h : H' p = none) : H p = none := by
  cases q : H p with
  | none => rfl
  | some u => rw [g p u q] at h; cases h
/-- the tuples stay -/
def TSame (H H' : Hp) : Prop := ∀ b xs, H b = some (.tup xs) → H' b = some (.tup xs)
theorem Same.t {H H' : Hp} (g : Same H H') : TSame H H' := fun b xs h => g b _ h
theorem TSame.refl (H : Hp) : TSame H H := fun _ _ h => h
theorem TSame.trans {H H1 H2 : Hp} (a : TSame H H1) (b : TSame H1 H2) : TSame H H2 := fun c xs h => b c xs (a c xs h)
theorem TSame.mut {H H' : Hp} {p : Addr} {o : HO} (g : TSame H H') (h : ∀ xs, H' p ≠ some (.tup xs)) : TSame H (upd H' p o) := fun b xs q => by
  have q' := g b xs q
  rw [upd_ne (fun e => h xs (by rw [← e]; exact q'))]
  exact q'
theorem notTup_lst {H : Hp} {p : Addr} {ys : List V} (h : H p = some (.lst ys)) : ∀ xs, H p ≠ some (.tup xs) := fun xs q => by rw [h] at q; cases q
theorem notTup_dK {H : Hp} {p : Addr} {ys : List (Key × V)} (h : H p = some (.dK ys)) : ∀ xs, H p ≠ some (.tup xs) := fun xs q => by rw [h] at q; cases q
theorem notTup_none {H : Hp} {p : Addr} (h : H p = none) : ∀ xs, H p ≠ some (.tup xs) := fun xs q => by rw [h] at q; cases q
theorem paired_len {α β : Type} {F : α → β → Prop} : ∀ {xs : List α} {ys : List β}, Paired F xs ys → xs.length = ys.length := Paired.length
theorem paired_snoc {α β : Type} {F : α → β → Prop} {xs : List α} {ys : List β} {x : α} {y : β} (p : Paired F xs ys) (h : F x y) : Paired F (xs ++ [x]) (ys ++ [y]) := Paired.snoc p h
theorem paired_mono {α β : Type} {F G : α → β → Prop} {xs : List α} {ys : List β} (p : Paired F xs ys) (h : ∀ a b, F a b → G a b) : Paired G xs ys := Paired.mapP p h
theorem paired_at {α β : Type} {F : α → β → Prop} : ∀ {xs : List α} {ys : List β}, Paired F xs ys → ∀ {i : Nat} {y : β}, ys[i]? = some y → ∃ x, xs[i]? = some x ∧ F x y
  | _, _, .nil, i, y, h => by cases h
  | _, _, .cons r t, 0, y, h => by cases h; exact ⟨_, rfl, r⟩
  | _, _, .cons r t, i + 1, y, h => paired_at t h
theorem paired_get {α β : Type} {F : α → β → Prop} : ∀ {xs : List α} {ys : List β}, Paired F xs ys → ∀ {i : Nat} {x : α}, xs[i]? = some x → ∃ y, ys[i]? = some y ∧ F x y := fun p _ _ h => LiI.paired_get p h
theorem fm_succ {δ : Type} (el : Nat → Option δ) (n : Nat) : (List.range (n + 1)).filterMap el = (List.range n).filterMap el ++ (el n).toList := by
  rw [List.range_succ, List.filterMap_append]
  cases h : el n <;> simp [h]
theorem fm_map {δ : Type} (f : Nat → δ) (n : Nat) : (List.range n).filterMap (fun i => some (f i)) = (List.range n).map f := by
  rw [List.filterMap_eq_map']
theorem fm_len {δ : Type} (el : Nat → Option δ) (n : Nat) : ((List.range n).filterMap el).length ≤ n := by
  have := List.length_filterMap_le el (List.range n)
  simpa using this
theorem paired_eq : ∀ {xs : List V} {ys : List V}, Paired (fun (v d : V) => v = d) xs ys → xs = ys
  | _, _, .nil => rfl
  | _, _, .cons r t => by rw [r, paired_eq t]
/-- a comprehension over any walk: turn i gives el i, told by rep; the tuples stay -/
theorem lc_rep {J : It} {n : Nat} {G : Hp → Prop} {Y : Nat → Hp → V → Hp → Prop} (w : Walk J n G Y) {δ : Type} (rep : Hp → V → δ → Prop) (mono : ∀ {H H' : Hp} {v : V} {d : δ}, TSame H H' → rep H v d → rep H' v d) (el : Nat → Option δ)
    {g : TG} {tt : TT} {te : TE} {vs : List Nat} {σ : L2.St} {H1 : Hp} {D : Addr} {Qd : Hp → Prop} (hD : H1 D = none) (hz : n < sizeLine) (hG : ∀ H, Same H1 H → G H)
    (turn : ∀ (i : Nat) (x : V) (H H' : Hp) (R : V → Hp → Prop) (R0 : Hp → Prop), i < n → Same H1 H → Y i H x H' → (∀ d v H4, el i = some d → Same H H4 → rep H4 v d → R v H4) → (∀ H3, el i = Option.none → Same H H3 → R0 H3) →
      g x (wipe σ vs) H' fun σ2 H2 => wipe σ2 vs = wipe σ vs ∧ tt σ2 H2 fun b H3 => if b = true then te σ2 H3 R else R0 H3)
    (hd : ∀ H us, Same H1 H → H D = some (.lst us) → Paired (rep H) us ((List.range n).filterMap el) → Qd H) :
    ∃ W : Nat → Nat → Hp → Prop, (∃ m, W 0 m (upd H1 D (.lst []))) ∧ ∀ i m H, W i m H →
      (J.stop i H ∧ Qd H) ∨ (J.go i H ∧ ∃ Nx : Hp → Prop, (∀ H', Nx H' → ∃ m', m' < m ∧ W (i + 1) m' H') ∧ ∀ x H', J.yld i H x H' → g x (wipe σ vs) H' fun σ2 H2 => wipe σ2 vs = wipe σ vs ∧ tt σ2 H2 fun b H3 =>
        if b = true then te σ2 H3 fun y H4 => ∃ acc, H4 D = some (.lst acc) ∧ acc.length < sizeLine ∧ Nx (upd H4 D (.lst (acc ++ [y]))) else Nx H3) := by
  refine lc_it w (fun i H => Same H1 H ∧ ∃ us, H D = some (.lst us) ∧ Paired (rep H) us ((List.range i).filterMap el)) ⟨same_new hD _, [], upd_same, .nil⟩ (fun i H _ p => hG H p.1) ?_ (fun H p => ?_)
  · rintro i x H H' hi ⟨g1, us, hus, pr⟩ y
    refine turn i x H H' _ _ hi g1 y (fun d v H4 e g4 r => ?_) (fun H3 e g3 => ?_)
    · have hl : us.length ≤ i := by rw [paired_len pr]; exact fm_len el i
      refine ⟨us, g4 _ _ hus, by omega, Same.mut (g1.trans g4) hD, us ++ [v], upd_same, ?_⟩
      rw [fm_succ, e]
      have ts : TSame H4 (upd H4 D (.lst (us ++ [v]))) := TSame.mut (TSame.refl _) (notTup_lst (g4 _ _ hus))
      exact paired_snoc (paired_mono pr fun a b h => mono ((Same.t g4).trans ts) h) (mono ts r)
    · refine ⟨g1.trans g3, us, g3 _ _ hus, ?_⟩
      rw [fm_succ, e, Option.toList_none, List.append_nil]
      exact paired_mono pr fun a b h => mono (Same.t g3) h
  · obtain ⟨g1, us, hus, pr⟩ := p
    exact hd H us g1 hus pr
/-- .. of plain values -/
theorem lc_val {J : It} {n : Nat} {G : Hp → Prop} {Y : Nat → Hp → V → Hp → Prop} (w : Walk J n G Y) (el : Nat → Option V)
    {g : TG} {tt : TT} {te : TE} {vs : List Nat} {σ : L2.St} {H1 : Hp} {D : Addr} {Qd : Hp → Prop} (hD : H1 D = none) (hz : n < sizeLine) (hG : ∀ H, Same H1 H → G H)
    (turn : ∀ (i : Nat) (x : V) (H H' : Hp) (R : V → Hp → Prop) (R0 : Hp → Prop), i < n → Same H1 H → Y i H x H' → (∀ v H4, el i = some v → Same H H4 → R v H4) → (∀ H3, el i = Option.none → Same H H3 → R0 H3) →
      g x (wipe σ vs) H' fun σ2 H2 => wipe σ2 vs = wipe σ vs ∧ tt σ2 H2 fun b H3 => if b = true then te σ2 H3 R else R0 H3)
    (hd : ∀ H, Same H1 H → H D = some (.lst ((List.range n).filterMap el)) → Qd H) :
    ∃ W : Nat → Nat → Hp → Prop, (∃ m, W 0 m (upd H1 D (.lst []))) ∧ ∀ i m H, W i m H →
      (J.stop i H ∧ Qd H) ∨ (J.go i H ∧ ∃ Nx : Hp → Prop, (∀ H', Nx H' → ∃ m', m' < m ∧ W (i + 1) m' H') ∧ ∀ x H', J.yld i H x H' → g x (wipe σ vs) H' fun σ2 H2 => wipe σ2 vs = wipe σ vs ∧ tt σ2 H2 fun b H3 =>
        if b = true then te σ2 H3 fun y H4 => ∃ acc, H4 D = some (.lst acc) ∧ acc.length < sizeLine ∧ Nx (upd H4 D (.lst (acc ++ [y]))) else Nx H3) :=
  lc_rep w (fun _ v d => v = d) (fun _ h => h) el hD hz hG (fun i x H H' R R0 hi g1 y k k0 => turn i x H H' R R0 hi g1 y (fun v H4 e g4 => k v v H4 e g4 rfl) k0) fun H us g1 hus pr => by
    rw [paired_eq pr] at hus
    exact hd H g1 hus
theorem iteT {c : Bool} {p q : Prop} (h : c = true) (hp : p) : if c = true then p else q := by rw [if_pos h]; exact hp
theorem iteF {c : Bool} {p q : Prop} (h : c = false) (hq : q) : if c = true then p else q := by rw [if_neg (by rw [h]; decide)]; exact hq
theorem veqF {i j : Int} (h : i ≠ j) : decide (V.int i = V.int j) = false := decide_eq_false fun e => h (by cases e; rfl)
theorem veqT {i j : Int} (h : i = j) : decide (V.int i = V.int j) = true := decide_eq_true (by rw [h])
theorem vneF {i j : Int} (h : i = j) : (!decide (V.int i = V.int j)) = false := by rw [veqT h]; rfl
theorem vneT {i j : Int} (h : i ≠ j) : (!decide (V.int i = V.int j)) = true := by rw [veqF h]; rfl
end Kl

/-! ## D1 -/
namespace Kl
open PySem PySem.Spec PyProof.Rows L2
local macro_rules | `(tactic| walk_at "rd") => `(tactic| repeat (first | refine ⟨_, rfl, ?_⟩ | refine ⟨_, _, rfl, rfl, ?_⟩ | refine ⟨_, _, rfl, ?_⟩ | refine ⟨rfl, ?_⟩ | refine ⟨Or.inl ⟨by decide, by decide⟩, ?_⟩ | refine ⟨Or.inr ⟨by decide, by decide⟩, ?_⟩ | refine ⟨⟨by decide, by decide⟩, ?_⟩ | refine ⟨by decide, ?_⟩))
section
variable {P : Program} {w : World} {K : PySem.W.Frag} {mg : Str → Option Value} {base : Heap} {f : Addr} {fd : FuncData}
abbrev n_is_int : List Str := ["value"]
theorem sc_is_int : FnScope n_is_int ["value"] (defScope s_is_int) := ⟨rfl, rfl, rfl, by decide +kernel, rfl, by decide +kernel, by decide +kernel⟩
def spIsInt : Sp := fun vs H Q _ => ∃ i : Int, vs = [.int i] ∧ Q (.bl true) H
theorem ok_is_int (T : Bt mg) (F : FnP K "is_int" s_is_int f fd) : FnOk P w K mg base CX0 1 f fd ["value"] spIsInt := by
  refine F.ok sc_is_int (fun vs H Q E h => ?_) (fun cdv A outer s H vs Q E hr h => ?_)
  · obtain ⟨i, rfl, _⟩ := h
    rfl
  obtain ⟨i, rfl, q⟩ := h
  refine ⟨_, (pss_one (ps_ret (pe_and (pe_callB call_isi (by rfl) T.isi (by decide +kernel) (pa_cons (pv 0) (pa_cons (pe_bltn (v := .ty "int") (u := .type "int") (by rfl) T.int (by decide +kernel) rfl) pa_nil))) (pe_one (pe_not (pe_callB call_isi (by rfl) T.isi (by decide +kernel) (pa_cons (pv 0) (pa_cons (pe_bltn (v := .ty "bool") (u := .type "bool") (by rfl) T.bool (by decide +kernel) rfl) pa_nil)))))))), ?_⟩
  walk_at "rd"
  refine ⟨_, _, _, _, true, rfl, .ty _, .base (.int _), kit_ty (by decide +kernel), ?_⟩
  walk_at "rd"
  refine ⟨_, _, _, _, false, rfl, .ty _, .base (.int _), kit_ty (by decide +kernel), ?_⟩
  walk_at "rd"
  exact q
abbrev n_is_in : List Str := ["value", "least", "most"]
theorem sc_is_in : FnScope n_is_in ["value", "least", "most"] (defScope s_is_in) := ⟨rfl, rfl, rfl, by decide +kernel, rfl, by decide +kernel, by decide +kernel⟩
def spIsIn : Sp := fun vs H Q _ => ∃ i a b : Int, vs = [.int i, .int a, .int b] ∧ Q (.bl (decide (a ≤ i) && decide (i ≤ b))) H
theorem ok_is_in (F : FnP K "is_in" s_is_in f fd) (G_is_int : Has P w K mg base 1 "is_int" ["value"] spIsInt) : FnOk P w K mg base CX0 2 f fd ["value", "least", "most"] spIsIn := by
  refine F.ok sc_is_in (fun vs H Q E h => ?_) (fun cdv A outer s H vs Q E hr h => ?_)
  · obtain ⟨i, a, b, rfl, _⟩ := h
    rfl
  obtain ⟨i, a, b, rfl, q⟩ := h
  refine ⟨_, (pss_one (ps_ret (pe_and (pe_fn G_is_int (hr.mono (by decide)) (pa_cons (pv 0) pa_nil)) (pe_one (pe_chain op_le op_le (pv 1) (pv 0) (pv 2)))))), ?_⟩
  walk_at "rd"
  refine ite2 (fun c => ?_) (fun c => ?_)
  · walk_at "rd"
    rw [c] at q
    exact q
  · rw [Bool.eq_false_iff.mpr c] at q
    exact q
end
end Kl

/-! ## D2 -/
namespace Kl
open PySem PySem.Spec PyProof.Rows L2
local macro_rules | `(tactic| walk_at "rd") => `(tactic| repeat (first | refine ⟨_, rfl, ?_⟩ | refine ⟨_, _, rfl, rfl, ?_⟩ | refine ⟨_, _, rfl, ?_⟩ | refine ⟨rfl, ?_⟩ | refine ⟨Or.inl ⟨by decide, by decide⟩, ?_⟩ | refine ⟨Or.inr ⟨by decide, by decide⟩, ?_⟩ | refine ⟨⟨by decide, by decide⟩, ?_⟩ | refine ⟨by decide, ?_⟩))
/-- a lane: the begin b with b rooms to the left and r to the right, its things -/
structure LaneH (H : Hp) (a : Addr) (b r : Nat) (things : List Str) : Prop where
  ex : ∃ t, H a = some (.tup [.int (b : Int), .ref t]) ∧ H t = some (.tup (things.map V.str))
  len : things.length = 2 * (b + r) + 1
  most : b + r < 60
theorem LaneH.mono {H H' : Hp} {a : Addr} {b r : Nat} {things : List Str} (L : LaneH H a b r things) (g : TSame H H') : LaneH H' a b r things :=
  ⟨let ⟨t, h1, h2⟩ := L.ex; ⟨t, g _ _ h1, g _ _ h2⟩, L.len, L.most⟩
theorem strs_at {things : List Str} {i : Nat} {z : Str} (h : things[i]? = some z) : (things.map V.str)[i]? = some (.str z) := by
  rw [List.getElem?_map, h]
  rfl
section
variable {P : Program} {w : World} {K : PySem.W.Frag} {mg : Str → Option Value} {base : Heap} {f : Addr} {fd : FuncData}
abbrev n_sides_of : List Str := ["lane"]
theorem sc_sides_of : FnScope n_sides_of ["lane"] (defScope s_sides_of) := ⟨rfl, rfl, rfl, by decide +kernel, rfl, by decide +kernel, by decide +kernel⟩
def spSidesOf : Sp := fun vs H Q _ => ∃ (a : Addr) (b r : Nat) (things : List Str), vs = [.ref a] ∧ LaneH H a b r things ∧ ∀ p H', Same H H' → H' p = some (.tup [.int (b : Int), .int (r : Int)]) → Q (.ref p) H'
theorem ok_sides_of (T : Bt mg) (F : FnP K "sides_of" s_sides_of f fd) : FnOk P w K mg base CX0 1 f fd ["lane"] spSidesOf := by
  refine F.ok sc_sides_of (fun vs H Q E h => ?_) (fun cdv A outer s H vs Q E hr h => ?_)
  · obtain ⟨a, b, r, things, rfl, L, q⟩ := h
    rfl
  obtain ⟨a, b, r, things, rfl, L, q⟩ := h
  refine ⟨_, (pss_one (ps_ret (pe_tup (pa_cons (pe_ix ix_tup (pv 0) pe_int (fun _ _ => rfl)) (pa_cons (pe_op op_sub (pe_op op_fdiv (pe_callB call_len_seq (by rfl) T.len (by decide +kernel) (pa_cons (pe_ix ix_tup (pv 0) pe_int (fun _ _ => rfl)) pa_nil)) pe_int) (pe_ix ix_tup (pv 0) pe_int (fun _ _ => rfl))) pa_nil))))), ?_⟩
  obtain ⟨t, h1, h2⟩ := L.ex
  walk_at "rd"
  refine ⟨a, _, _, _, rfl, rfl, SqT.of h1, rfl, ?_⟩
  walk_at "rd"
  refine ⟨a, _, _, _, rfl, rfl, SqT.of h1, rfl, ?_⟩
  walk_at "rd"
  refine ⟨t, _, rfl, .inr (SqT.of h2), ?_⟩
  walk_at "rd"
  refine ⟨a, _, _, _, rfl, rfl, SqT.of h1, rfl, ?_⟩
  walk_at "rd"
  refine ⟨by simp [sizeLine], fun p hp => ?_⟩
  refine q p _ (same_new hp _) ?_
  have hl := L.len
  have e : ((things.map V.str).length : Int) / 2 - (b : Int) = (r : Int) := by
    rw [List.length_map, hl]
    omega
  simp only [upd_same, e]
abbrev n_left_room : List Str := ["lane", "x"]
theorem sc_left_room : FnScope n_left_room ["lane", "x"] (defScope s_left_room) := ⟨rfl, rfl, rfl, by decide +kernel, rfl, by decide +kernel, by decide +kernel⟩
def spLeftRoom : Sp := fun vs H Q _ => ∃ (a : Addr) (b r x : Nat) (things : List Str) (z : Str), vs = [.ref a, .int (x : Int)] ∧ LaneH H a b r things ∧ x ≤ b ∧ things[2 * (b - x)]? = some z ∧ Q (.str z) H
theorem ok_left_room (T : Bt mg) (F : FnP K "left_room" s_left_room f fd) : FnOk P w K mg base CX0 1 f fd ["lane", "x"] spLeftRoom := by
  refine F.ok sc_left_room (fun vs H Q E h => ?_) (fun cdv A outer s H vs Q E hr h => ?_)
  · obtain ⟨a, b, r, x, things, z, rfl, L, hx, hz, q⟩ := h
    rfl
  obtain ⟨a, b, r, x, things, z, rfl, L, hx, hz, q⟩ := h
  refine ⟨_, (pss_one (ps_ret (pe_ix ix_tup (pe_ix ix_tup (pv 0) pe_int (fun _ _ => rfl)) (pe_op op_mul pe_int (pe_op op_sub (pe_ix ix_tup (pv 0) pe_int (fun _ _ => rfl)) (pv 1))) (fun _ _ => rfl)))), ?_⟩
  obtain ⟨t, h1, h2⟩ := L.ex
  walk_at "rd"
  refine ⟨a, _, _, _, rfl, rfl, SqT.of h1, rfl, ?_⟩
  walk_at "rd"
  refine ⟨a, _, _, _, rfl, rfl, SqT.of h1, rfl, ?_⟩
  walk_at "rd"
  refine ⟨t, _, _, _, rfl, rfl, SqT.of h2, (at_of (j := 2 * (b - x)) (by omega) (strs_at hz)), ?_⟩
  exact q
abbrev n_right_room : List Str := ["lane", "y"]
theorem sc_right_room : FnScope n_right_room ["lane", "y"] (defScope s_right_room) := ⟨rfl, rfl, rfl, by decide +kernel, rfl, by decide +kernel, by decide +kernel⟩
def spRightRoom : Sp := fun vs H Q _ => ∃ (a : Addr) (b r y : Nat) (things : List Str) (z : Str), vs = [.ref a, .int (y : Int)] ∧ LaneH H a b r things ∧ things[2 * (b + y)]? = some z ∧ Q (.str z) H
theorem ok_right_room (T : Bt mg) (F : FnP K "right_room" s_right_room f fd) : FnOk P w K mg base CX0 1 f fd ["lane", "y"] spRightRoom := by
  refine F.ok sc_right_room (fun vs H Q E h => ?_) (fun cdv A outer s H vs Q E hr h => ?_)
  · obtain ⟨a, b, r, y, things, z, rfl, L, hz, q⟩ := h
    rfl
  obtain ⟨a, b, r, y, things, z, rfl, L, hz, q⟩ := h
  refine ⟨_, (pss_one (ps_ret (pe_ix ix_tup (pe_ix ix_tup (pv 0) pe_int (fun _ _ => rfl)) (pe_op op_mul pe_int (pe_op op_add (pe_ix ix_tup (pv 0) pe_int (fun _ _ => rfl)) (pv 1))) (fun _ _ => rfl)))), ?_⟩
  obtain ⟨t, h1, h2⟩ := L.ex
  walk_at "rd"
  refine ⟨a, _, _, _, rfl, rfl, SqT.of h1, rfl, ?_⟩
  walk_at "rd"
  refine ⟨a, _, _, _, rfl, rfl, SqT.of h1, rfl, ?_⟩
  walk_at "rd"
  refine ⟨t, _, _, _, rfl, rfl, SqT.of h2, (at_of (j := 2 * (b + y)) (by omega) (strs_at hz)), ?_⟩
  exact q
abbrev n_left_door : List Str := ["lane", "x"]
theorem sc_left_door : FnScope n_left_door ["lane", "x"] (defScope s_left_door) := ⟨rfl, rfl, rfl, by decide +kernel, rfl, by decide +kernel, by decide +kernel⟩
def spLeftDoor : Sp := fun vs H Q _ => ∃ (a : Addr) (b r x : Nat) (things : List Str) (z : Str), vs = [.ref a, .int (x : Int)] ∧ LaneH H a b r things ∧ x < b ∧ things[2 * (b - x) - 1]? = some z ∧ Q (.str z) H
theorem ok_left_door (T : Bt mg) (F : FnP K "left_door" s_left_door f fd) : FnOk P w K mg base CX0 1 f fd ["lane", "x"] spLeftDoor := by
  refine F.ok sc_left_door (fun vs H Q E h => ?_) (fun cdv A outer s H vs Q E hr h => ?_)
  · obtain ⟨a, b, r, x, things, z, rfl, L, hx, hz, q⟩ := h
    rfl
  obtain ⟨a, b, r, x, things, z, rfl, L, hx, hz, q⟩ := h
  refine ⟨_, (pss_one (ps_ret (pe_ix ix_tup (pe_ix ix_tup (pv 0) pe_int (fun _ _ => rfl)) (pe_op op_sub (pe_op op_mul pe_int (pe_op op_sub (pe_ix ix_tup (pv 0) pe_int (fun _ _ => rfl)) (pv 1))) pe_int) (fun _ _ => rfl)))), ?_⟩
  obtain ⟨t, h1, h2⟩ := L.ex
  walk_at "rd"
  refine ⟨a, _, _, _, rfl, rfl, SqT.of h1, rfl, ?_⟩
  walk_at "rd"
  refine ⟨a, _, _, _, rfl, rfl, SqT.of h1, rfl, ?_⟩
  walk_at "rd"
  refine ⟨t, _, _, _, rfl, rfl, SqT.of h2, (at_of (j := 2 * (b - x) - 1) (by omega) (strs_at hz)), ?_⟩
  exact q
abbrev n_right_door : List Str := ["lane", "y"]
theorem sc_right_door : FnScope n_right_door ["lane", "y"] (defScope s_right_door) := ⟨rfl, rfl, rfl, by decide +kernel, rfl, by decide +kernel, by decide +kernel⟩
def spRightDoor : Sp := fun vs H Q _ => ∃ (a : Addr) (b r y : Nat) (things : List Str) (z : Str), vs = [.ref a, .int (y : Int)] ∧ LaneH H a b r things ∧ things[2 * (b + y) + 1]? = some z ∧ Q (.str z) H
theorem ok_right_door (T : Bt mg) (F : FnP K "right_door" s_right_door f fd) : FnOk P w K mg base CX0 1 f fd ["lane", "y"] spRightDoor := by
  refine F.ok sc_right_door (fun vs H Q E h => ?_) (fun cdv A outer s H vs Q E hr h => ?_)
  · obtain ⟨a, b, r, y, things, z, rfl, L, hz, q⟩ := h
    rfl
  obtain ⟨a, b, r, y, things, z, rfl, L, hz, q⟩ := h
  refine ⟨_, (pss_one (ps_ret (pe_ix ix_tup (pe_ix ix_tup (pv 0) pe_int (fun _ _ => rfl)) (pe_op op_add (pe_op op_mul pe_int (pe_op op_add (pe_ix ix_tup (pv 0) pe_int (fun _ _ => rfl)) (pv 1))) pe_int) (fun _ _ => rfl)))), ?_⟩
  obtain ⟨t, h1, h2⟩ := L.ex
  walk_at "rd"
  refine ⟨a, _, _, _, rfl, rfl, SqT.of h1, rfl, ?_⟩
  walk_at "rd"
  refine ⟨a, _, _, _, rfl, rfl, SqT.of h1, rfl, ?_⟩
  walk_at "rd"
  refine ⟨t, _, _, _, rfl, rfl, SqT.of h2, (at_of (j := 2 * (b + y) + 1) (by omega) (strs_at hz)), ?_⟩
  exact q
end
end Kl

/-! ## D3 -/
namespace Kl
open PySem PySem.Spec PyProof.Rows L2
local macro_rules | `(tactic| walk_at "rd") => `(tactic| repeat (first | refine ⟨_, rfl, ?_⟩ | refine ⟨_, _, rfl, rfl, ?_⟩ | refine ⟨_, _, rfl, ?_⟩ | refine ⟨rfl, ?_⟩ | refine ⟨Or.inl ⟨by decide, by decide⟩, ?_⟩ | refine ⟨Or.inr ⟨by decide, by decide⟩, ?_⟩ | refine ⟨⟨by decide, by decide⟩, ?_⟩ | refine ⟨by decide, ?_⟩))
/-- a set of kinds -/
structure SetOk (z : Str) : Prop where
  abc : ∀ c ∈ z.cps.toList, 97 ≤ c ∧ c ≤ 108
  up : z.cps.toList.Pairwise (· < ·)
  len : z.length ≤ 100
theorem kinds_all : ∀ c : Nat, 97 ≤ c → c ≤ 108 → c ∈ (Str.ofString "abcdefghijkl").cps.toList := by
  intro c h1 h2
  have e : (Str.ofString "abcdefghijkl").cps.toList = [97, 98, 99, 100, 101, 102, 103, 104, 105, 106, 107, 108] := by decide +kernel
  rw [e]
  simp only [List.mem_cons, List.not_mem_nil, or_false]
  omega
theorem all_true : ∀ n : Nat, ((List.range n).filterMap fun _ => some (V.bl true)) = (List.replicate n true).map V.bl := by
  intro n
  rw [fm_map, List.map_replicate]
  exact List.eq_replicate_iff.mpr ⟨by simp, by simp⟩
theorem replicate_all (n : Nat) : (List.replicate n true).all id = true := by simp
section
variable {P : Program} {w : World} {K : PySem.W.Frag} {mg : Str → Option Value} {base : Heap} {f : Addr} {fd : FuncData}
abbrev n_is_set : List Str := ["value", "sign", "one", "other"]
theorem sc_is_set : FnScope n_is_set ["value"] (defScope s_is_set) := ⟨rfl, rfl, rfl, by decide +kernel, rfl, by decide +kernel, by decide +kernel⟩
def spIsSet : Sp := fun vs H Q _ => ∃ z : Str, vs = [.str z] ∧ SetOk z ∧ ∀ H', Same H H' → Q (.bl true) H'
theorem cut1 (z : Str) : cutS z (some 1) none = ⟨(z.cps.toList.drop 1).toArray⟩ := by
  have hl : z.cps.toList.length = z.length := rfl
  have e : HT.sIx z.length 0 (some 1) = min 1 z.length := HT.sIx_nat z.length 0 1
  unfold cutS
  rw [e, HT.sIx_none]
  by_cases h : 1 ≤ z.length
  · rw [Nat.min_eq_left h, List.take_of_length_le]
    rw [List.length_drop]
    omega
  · rw [List.drop_eq_nil_of_le (by omega), List.drop_eq_nil_of_le (by omega), List.take_nil]
theorem sz100 {n : Nat} (h : n ≤ 100) : n < sizeLine := Nat.lt_of_le_of_lt h (by decide)
theorem ok_is_set (T : Bt mg) (F : FnP K "is_set" s_is_set f fd) : FnOk P w K mg base CX0 1 f fd ["value"] spIsSet := by
  refine F.ok sc_is_set (fun vs H Q E h => ?_) (fun cdv A outer s H vs Q E hr h => ?_)
  · obtain ⟨z, rfl, ok, q⟩ := h
    rfl
  obtain ⟨z, rfl, ok, q⟩ := h
  obtain ⟨tK, hKI⟩ := T.ki
  refine ⟨_, (pss_cons (ps_if (PW.pt (pw_or (pt_not (pt_val (pe_callB call_isi (by rfl) T.isi (by decide +kernel) (pa_cons (pv 0) (pa_cons (pe_bltn (v := .ty "str") (u := .type "str") (by rfl) T.str (by decide +kernel) rfl) pa_nil))))) (pw_or1 (pt_not (pt_val (pe_callB (cr_all rfl) (by rfl) T.all (by decide +kernel) (pa_cons (pe_lc (own := [("sign", 1)]) (g := (gName 1)) (tt := tYes) rfl sc_is_set.nd (pi_str (pv 0)) (blkOk_by (own := [("sign", 1)]) (N := n_is_set) (sc := defScope s_is_set) (by decide +kernel)) (fun _ _ _ _ _ => (pg_name (i := 1) sc_is_set.nd rfl (Or.inl rfl))) (fun _ _ _ _ _ => pts_nil) (fun _ _ _ _ _ => (pe_cmpR op_in_sign (pv 1) (pe_glob (v := .str "abcdefghijkl") (by rfl) hKI ⟨_, rfl⟩) (by rfl)))) pa_nil))))))) (pss_one (ps_ret pe_bl)) pss_nil)
  (pss_one (ps_ret (pe_callB (cr_all rfl) (by rfl) T.all (by decide +kernel) (pa_cons (pe_lc (own := [("one", 2), ("other", 3)]) (g := (gTup K 2 (gCons (gName 2) (gCons (gName 3) gNil)))) (tt := tYes) rfl sc_is_set.nd (pi_zipSS (by rfl) T.zip (pa_cons (pv 0) (pa_cons (pe_slice sl_str (pv 0) (po_some pe_int) po_none) pa_nil))) (blkOk_by (own := [("one", 2), ("other", 3)]) (N := n_is_set) (sc := defScope s_is_set) (by decide +kernel)) (fun _ _ _ _ _ => (pg_tup rfl (pgs_cons (pg_name (i := 2) sc_is_set.nd rfl (Or.inl rfl)) (pgs_cons (pg_name (i := 3) sc_is_set.nd rfl (Or.inl rfl)) pgs_nil)))) (fun _ _ _ _ _ => pts_nil) (fun _ _ _ _ _ => (pe_cmpR op_lt_str (pv 2) (pv 3) (nomark _)))) pa_nil))))), ?_⟩
  walk_at "rd"
  refine ⟨_, _, _, _, true, rfl, .ty _, .base (.str _), kit_ty (by decide +kernel), ?_⟩
  walk_at "rd"
  intro D hD
  refine lc_val walk_str (fun _ => some (V.bl true)) hD (sz100 ok.len) (fun _ _ => trivial) ?_ ?_
  · rintro i x H2 H3 R R0 hi g1 ⟨rfl, c, hc, rfl⟩ k k0
    refine ⟨rfl, ?_⟩
    walk_at "rd"
    have e : decide (c ∈ (Str.ofString "abcdefghijkl").cps.toList) = true := decide_eq_true (by
      have hm : c ∈ z.cps.toList := by
        rw [List.mem_iff_getElem?]
        exact ⟨i, by rw [Array.getElem?_toList]; exact hc⟩
      exact kinds_all c (ok.abc c hm).1 (ok.abc c hm).2)
    rw [e]
    exact k _ _ rfl (Same.refl _)
  · intro H2 g2 hl2
    rw [all_true] at hl2
    refine ⟨D, _, rfl, SqL.of hl2, ?_⟩
    rw [replicate_all]
    walk_at "rd"
    refine ⟨Nat.le_of_lt (sz100 ok.len), ?_⟩
    rw [cut1]
    walk_at "rd"
    intro D2 hD2
    have lz : z.cps.toList.length = z.length := rfl
    refine lc_val (walk_zipSS (n := z.length - 1) ?_) (fun _ => some (V.bl true)) hD2 ?_ (fun _ _ => trivial) ?_ ?_
    · show z.length - 1 = min z.length (z.cps.toList.drop 1).toArray.size
      rw [List.size_toArray, List.length_drop]
      omega
    · exact sz100 (by have := ok.len; omega)
    · rintro i x H3 H4 R R0 hi g3 ⟨t, u, v, rfl, ht, rfl, hu, hv⟩ k k0
      obtain ⟨c, hc, rfl⟩ : ∃ c, z.cps.toList[i]? = some c ∧ u = .str ⟨#[c]⟩ := by
        unfold chAt at hu
        cases e : z.cps[i]? with
        | none => rw [e] at hu; cases hu
        | some c => rw [e] at hu; exact ⟨c, by rw [Array.getElem?_toList]; exact e, (Option.some.inj hu).symm⟩
      obtain ⟨d, hd, rfl⟩ : ∃ d, z.cps.toList[i + 1]? = some d ∧ v = .str ⟨#[d]⟩ := by
        unfold chAt at hv
        simp only [List.getElem?_toArray, List.getElem?_drop] at hv
        cases e : z.cps.toList[1 + i]? with
        | none => rw [e] at hv; cases hv
        | some d => rw [e] at hv; exact ⟨d, by rw [Nat.add_comm]; exact e, (Option.some.inj hv).symm⟩
      have lt : c < d := by
        obtain ⟨h1, e1⟩ := List.getElem?_eq_some_iff.mp hc
        obtain ⟨h2, e2⟩ := List.getElem?_eq_some_iff.mp hd
        rw [← e1, ← e2]
        exact List.pairwise_iff_getElem.mp ok.up i (i + 1) h1 h2 (Nat.lt_succ_self i)
      refine ⟨t, _, rfl, SqT.of upd_same, rfl, ?_⟩
      walk_at "rd"
      have e : decide (([c] : List Nat) < [d]) = true := decide_eq_true (List.Lex.rel lt)
      show R (.bl (decide (([c] : List Nat) < [d]))) _
      rw [e]
      exact k _ _ rfl (same_new ht _)
    · intro H3 g3 hl3
      rw [all_true] at hl3
      refine ⟨D2, _, rfl, SqL.of hl3, ?_⟩
      rw [replicate_all]
      exact q _ (g2.trans g3)
end
end Kl

/-! ## D4 -/
namespace Kl
open PySem PySem.Spec PyProof.Rows L2
local macro_rules | `(tactic| walk_at "rd") => `(tactic| repeat (first | refine ⟨_, rfl, ?_⟩ | refine ⟨_, _, rfl, rfl, ?_⟩ | refine ⟨_, _, rfl, ?_⟩ | refine ⟨rfl, ?_⟩ | refine ⟨Or.inl ⟨by decide, by decide⟩, ?_⟩ | refine ⟨Or.inr ⟨by decide, by decide⟩, ?_⟩ | refine ⟨⟨by decide, by decide⟩, ?_⟩ | refine ⟨by decide, ?_⟩ | refine ⟨show (0 : Int) < _ from by decide, ?_⟩))
theorem str_of {things : List Str} {i : Nat} {v : V} (h : (things.map V.str)[i]? = some v) : ∃ z, things[i]? = some z ∧ v = .str z := by
  rw [List.getElem?_map] at h
  cases e : things[i]? with
  | none => rw [e] at h; cases h
  | some z => rw [e] at h; exact ⟨z, rfl, (Option.some.inj h).symm⟩
section
variable {P : Program} {w : World} {K : PySem.W.Frag} {mg : Str → Option Value} {base : Heap} {f : Addr} {fd : FuncData}
abbrev n_need_lane : List Str := ["value", "many", "index", "thing"]
theorem sc_need_lane : FnScope n_need_lane ["value"] (defScope s_need_lane) := ⟨rfl, rfl, rfl, by decide +kernel, rfl, by decide +kernel, by decide +kernel⟩
def spNeedLane : Sp := fun vs H Q _ => ∃ (a : Addr) (b r : Nat) (things : List Str), vs = [.ref a] ∧ LaneH H a b r things ∧ (∀ z ∈ things, SetOk z) ∧ ∀ H', Same H H' → Q .non H'
theorem ok_need_lane (T : Bt mg) (G_is_in : Has P w K mg base 2 "is_in" ["value", "least", "most"] spIsIn) (G_is_set : Has P w K mg base 1 "is_set" ["value"] spIsSet) (F : FnP K "need_lane" s_need_lane f fd) : FnOk P w K mg base CX0 3 f fd ["value"] spNeedLane := by
  refine F.ok sc_need_lane (fun vs H Q E h => ?_) (fun cdv A outer s H vs Q E hr h => ?_)
  · obtain ⟨a, b, r, things, rfl, L, sok, q⟩ := h
    rfl
  obtain ⟨a, b, r, things, rfl, L, sok, q⟩ := h
  obtain ⟨tM, hMR⟩ := T.mr
  refine ⟨_, (PSs.nox (pss_cons (ps_if (PW.pt (pw_or (pt_not (pt_val (pe_callB call_isi (by rfl) T.isi (by decide +kernel) (pa_cons (pv 0) (pa_cons (pe_bltn (v := .ty "tuple") (u := .type "tuple") (by rfl) T.tuple (by decide +kernel) rfl) pa_nil))))) (pw_or (pt_cmpR op_ne (pe_callB call_len_seq (by rfl) T.len (by decide +kernel) (pa_cons (pv 0) pa_nil)) pe_int (nomark _)) (pw_or1 (pt_not (pt_val (pe_callB call_isi (by rfl) T.isi (by decide +kernel) (pa_cons (pe_ix ix_tup (pv 0) pe_int (fun _ _ => rfl)) (pa_cons (pe_bltn (v := .ty "tuple") (u := .type "tuple") (by rfl) T.tuple (by decide +kernel) rfl) pa_nil))))))))) (pss_one ps_never) pss_nil)
  (pss_cons (ps_set (i := 1) sc_need_lane.nd rfl (Or.inl rfl) (pe_callB call_len_seq (by rfl) T.len (by decide +kernel) (pa_cons (pe_ix ix_tup (pv 0) pe_int (fun _ _ => rfl)) pa_nil)))
  (pss_cons (ps_if (PW.pt (pw_or (pt_cmpR op_eq (pe_op op_mod (pv 1) pe_int) pe_int (nomark _)) (pw_or (pt_cmpR op_ge (pv 1) (pe_op op_mul pe_int (pe_glob (v := .int 60) (by rfl) hMR ⟨_, rfl⟩)) (nomark _)) (pw_or1 (pt_not (pt_val (pe_fn G_is_in (hr.mono (by decide)) (pa_cons (pe_ix ix_tup (pv 0) pe_int (fun _ _ => rfl)) (pa_cons pe_int (pa_cons (pe_op op_fdiv (pv 1) pe_int) pa_nil)))))))))) (pss_one ps_never) pss_nil)
  (pss_one (ps_for PassesOwn.never rfl (pi_enumT (by rfl) T.enumerate (pa_cons (pe_ix ix_tup (pv 0) pe_int (fun _ _ => rfl)) pa_nil)) (pg_tup rfl (pgs_cons (pg_name (i := 2) sc_need_lane.nd rfl (Or.inl rfl)) (pgs_cons (pg_name (i := 3) sc_need_lane.nd rfl (Or.inl rfl)) pgs_nil))) (pss_one (ps_if (pt_not (pt_val (pe_fn G_is_set (hr.mono (by decide)) (pa_cons (pv 3) pa_nil)))) (pss_one ps_never) pss_nil)))))))), ?_⟩
  obtain ⟨t, h1, h2⟩ := L.ex
  walk_at "rd"
  refine ⟨_, _, _, _, true, rfl, .ty _, .base (.tup h1), kit_ty (by decide +kernel), ?_⟩
  walk_at "rd"
  refine ⟨a, _, rfl, .inr (SqT.of h1), ?_⟩
  walk_at "rd"
  refine ⟨a, _, _, _, rfl, rfl, SqT.of h1, rfl, ?_⟩
  walk_at "rd"
  refine ⟨_, _, _, _, true, rfl, .ty _, .base (.tup h2), kit_ty (by decide +kernel), ?_⟩
  walk_at "rd"
  refine ⟨a, _, _, _, rfl, rfl, SqT.of h1, rfl, ?_⟩
  walk_at "rd"
  refine ⟨t, _, rfl, .inr (SqT.of h2), ?_⟩
  have hl : (things.map V.str).length = 2 * (b + r) + 1 := by rw [List.length_map]; exact L.len
  rw [hl]
  walk_at "rd"
  (refine iteF ?_ ?_; (· exact veqF (by omega)))
  walk_at "rd"
  have hm := L.most
  (refine iteF ?_ ?_; (· exact decide_eq_false (by omega)))
  walk_at "rd"
  refine ⟨a, _, _, _, rfl, rfl, SqT.of h1, rfl, ?_⟩
  walk_at "rd"
  refine ⟨_, _, _, rfl, ?_⟩
  have e : (decide ((0 : Int) ≤ (b : Int)) && decide ((b : Int) ≤ ((2 * (b + r) + 1 : Nat) : Int) / 2)) = true := by
    rw [Bool.and_eq_true]
    exact ⟨decide_eq_true (by omega), decide_eq_true (by omega)⟩
  rw [e]
  walk_at "rd"
  refine ⟨a, _, _, _, rfl, rfl, SqT.of h1, rfl, ?_⟩
  walk_at "rd"
  refine ⟨t, _, rfl, h2, ?_⟩
  refine for_it walk_enumT (fun i σ H' => Same H H' ∧ ∃ x y z, σ = [some (.ref a), x, y, z]) ⟨Same.refl _, _, _, _, rfl⟩ (fun i σ H' _ p => p.1 _ _ h2) ?_ (fun σ H' p => ?_)
  · rintro i x σ H2 H3 hi ⟨g1, x0, y0, z0, rfl⟩ ⟨p, u, v, rfl, hp, rfl, hu, hv⟩
    refine ⟨p, _, rfl, SqT.of upd_same, rfl, ?_⟩
    walk_at "rd"
    obtain ⟨z, hz, rfl⟩ := str_of hv
    refine ⟨z, rfl, sok z (List.mem_of_getElem? hz), fun H4 g4 => ?_⟩
    walk_at "rd"
    exact ⟨(g1.trans (same_new hp _)).trans g4, _, _, _, rfl⟩
  · walk_at "rd"
    exact q _ p.1
end
end Kl

/-! ## KlLane -/
namespace Kl
/-- the first place whose letters have c -/
def firstIn (rm : Nat → List Nat) (n c : Nat) : Option Nat := (List.range n).find? fun x => decide (c ∈ rm x)
theorem firstIn_succ (rm : Nat → List Nat) (n c : Nat) : firstIn rm (n + 1) c = match firstIn rm n c with
    | some v => some v
    | none => if c ∈ rm n then some n else none := by
  unfold firstIn
  rw [List.range_succ, List.find?_append]
  cases (List.range n).find? fun x => decide (c ∈ rm x) with
  | some v => rfl
  | none =>
    by_cases h : c ∈ rm n <;> simp [h]
/-- .. within the first places and some letters of the next -/
def firstMid (rm : Nat → List Nat) (n j c : Nat) : Option Nat := match firstIn rm n c with
  | some v => some v
  | none => if c ∈ (rm n).take j then some n else none
theorem firstMid_0 (rm : Nat → List Nat) (n c : Nat) : firstMid rm n 0 c = firstIn rm n c := by
  unfold firstMid
  cases firstIn rm n c <;> simp
theorem firstMid_all (rm : Nat → List Nat) (n c : Nat) : firstMid rm n (rm n).length c = firstIn rm (n + 1) c := by
  unfold firstMid
  rw [firstIn_succ, List.take_length]
theorem firstMid_old {rm : Nat → List Nat} {n j d : Nat} (hd : (rm n)[j]? = some d) {v : Nat} (h : firstMid rm n j d = some v) (c : Nat) : firstMid rm n (j + 1) c = firstMid rm n j c := by
  have e : (rm n).take (j + 1) = (rm n).take j ++ [d] := by rw [List.take_add_one, hd]; rfl
  unfold firstMid at h ⊢
  cases e1 : firstIn rm n c with
  | some v => rfl
  | none =>
    rw [e]
    by_cases hc : c = d
    · subst hc
      rw [e1] at h
      by_cases hm : c ∈ (rm n).take j
      · simp [hm]
      · simp [hm] at h
    · simp [hc]
theorem firstMid_new {rm : Nat → List Nat} {n j d : Nat} (hd : (rm n)[j]? = some d) (h : firstMid rm n j d = none) (c : Nat) : firstMid rm n (j + 1) c = if c = d then some n else firstMid rm n j c := by
  have e : (rm n).take (j + 1) = (rm n).take j ++ [d] := by rw [List.take_add_one, hd]; rfl
  unfold firstMid at h ⊢
  by_cases hc : c = d
  · subst hc
    rw [if_pos rfl]
    cases e1 : firstIn rm n c with
    | some v => rw [e1] at h; cases h
    | none => simp [e]
  · rw [if_neg hc]
    cases e1 : firstIn rm n c with
    | some v => rfl
    | none => simp [e, hc]
/-- what a door asks for -/
def hb (own others : Nat → Option Nat) (here : Nat) : List Nat → Nat → Option Nat
  | [], acc => some acc
  | c :: cs, acc => if here < (own c).getD (here + 1) then match others c with
      | none => none
      | some v => hb own others here cs (max acc v)
    else hb own others here cs acc
theorem hb_le {own others : Nat → Option Nat} {here m : Nat} (h : ∀ c v, others c = some v → v ≤ m) : ∀ (cs : List Nat) (acc t : Nat), acc ≤ m → hb own others here cs acc = some t → t ≤ m
  | [], acc, t, ha, e => by cases e; exact ha
  | c :: cs, acc, t, ha, e => by
    unfold hb at e
    split at e
    · cases ho : others c with
      | none => rw [ho] at e; cases e
      | some v =>
        rw [ho] at e
        exact hb_le h cs _ t (by have := h c v ho; omega) e
    · exact hb_le h cs _ t ha e
theorem firstIn_lt {rm : Nat → List Nat} {n c v : Nat} (h : firstIn rm n c = some v) : v < n := by
  have := List.mem_of_find?_eq_some h
  exact List.mem_range.mp this
end Kl

/-! ## D5 -/
namespace Kl
open PySem PySem.Spec PyProof.Rows L2
local macro_rules | `(tactic| walk_at "rd") => `(tactic| repeat (first | refine ⟨_, rfl, ?_⟩ | refine ⟨_, _, rfl, rfl, ?_⟩ | refine ⟨_, _, rfl, ?_⟩ | refine ⟨rfl, ?_⟩ | refine ⟨Or.inl ⟨by decide, by decide⟩, ?_⟩ | refine ⟨Or.inr ⟨by decide, by decide⟩, ?_⟩ | refine ⟨⟨by decide, by decide⟩, ?_⟩ | refine ⟨by decide, ?_⟩ | refine ⟨show (0 : Int) < _ from by decide, ?_⟩))
/-- the letters of a thing -/
def cds (things : List Str) (i : Nat) : List Nat := ((things[i]?).map fun z => z.cps.toList).getD []
theorem cds_at {things : List Str} {i : Nat} {z : Str} (h : things[i]? = some z) : cds things i = z.cps.toList := by
  unfold cds
  rw [h]
  rfl
abbrev lrm (things : List Str) (b x : Nat) : List Nat := cds things (2 * (b - x))
abbrev rrm (things : List Str) (b y : Nat) : List Nat := cds things (2 * (b + y))
abbrev ldr (things : List Str) (b x : Nat) : List Nat := cds things (2 * (b - x) - 1)
abbrev rdr (things : List Str) (b y : Nat) : List Nat := cds things (2 * (b + y) + 1)
theorem thing_at {things : List Str} {i : Nat} (h : i < things.length) : ∃ z, things[i]? = some z := ⟨things[i], List.getElem?_eq_getElem h⟩
/-- one sign as a key -/
abbrev sK (c : Nat) : Key := .inr ⟨#[c]⟩
theorem sK_inj {c d : Nat} : sK c = sK d ↔ c = d := ⟨fun e => by
  have e1 : (⟨#[c]⟩ : Str) = ⟨#[d]⟩ := Sum.inr.inj e
  have e2 : #[c] = #[d] := congrArg Str.cps e1
  simpa using e2, fun e => by rw [e]⟩
/-- a dict that tells where a sign first is -/
def FstOf (kvs : List (Key × V)) (f : Nat → Option Nat) : Prop := ∀ c, valV kvs (sK c) = (f c).map fun x => V.int ((x : Nat) : Int)
def FDict (H : Hp) (p : Addr) (f : Nat → Option Nat) : Prop := ∃ kvs, H p = some (.dK kvs) ∧ FstOf kvs f
theorem fst_old {kvs : List (Key × V)} {rm : Nat → List Nat} {n j d : Nat} {v : V} (hf : FstOf kvs (firstMid rm n j)) (hd : (rm n)[j]? = some d) (hv : valV kvs (sK d) = some v) : FstOf kvs (firstMid rm n (j + 1)) := fun c => by
  have h1 := hf d
  rw [hv] at h1
  cases e : firstMid rm n j d with
  | none => rw [e] at h1; cases h1
  | some u => rw [firstMid_old hd e]; exact hf c
theorem fst_new {kvs : List (Key × V)} {rm : Nat → List Nat} {n j d : Nat} (hf : FstOf kvs (firstMid rm n j)) (hd : (rm n)[j]? = some d) (hv : valV kvs (sK d) = none) : FstOf (putK kvs (sK d) (.int (n : Nat))) (firstMid rm n (j + 1)) := fun c => by
  have h1 := hf d
  rw [hv] at h1
  cases e : firstMid rm n j d with
  | some u => rw [e] at h1; cases h1
  | none =>
    rw [valV_put, firstMid_new hd e]
    by_cases hc : c = d
    · rw [if_pos hc, if_pos (sK_inj.mpr hc)]
      rfl
    · rw [if_neg hc, if_neg (fun z => hc (sK_inj.mp z))]
      exact hf c
theorem code_at {z : Str} {j c : Nat} (h : z.cps[j]? = some c) : z.cps.toList[j]? = some c := by rw [Array.getElem?_toList]; exact h
section
variable {P : Program} {w : World} {K : PySem.W.Frag} {mg : Str → Option Value} {base : Heap} {f : Addr} {fd : FuncData}
abbrev n_firsts_of : List Str := ["lane", "many_left", "many_right", "left", "right", "x", "sign", "y"]
theorem sc_firsts_of : FnScope n_firsts_of ["lane"] (defScope s_firsts_of) := ⟨rfl, rfl, rfl, by decide +kernel, rfl, by decide +kernel, by decide +kernel⟩
def spFirstsOf : Sp := fun vs H Q _ => ∃ (a : Addr) (b r : Nat) (things : List Str), vs = [.ref a] ∧ LaneH H a b r things ∧ (∀ z ∈ things, SetOk z) ∧
  ∀ p dl dr H', Same H H' → H' p = some (.tup [.ref dl, .ref dr]) → FDict H' dl (firstIn (lrm things b) (b + 1)) → FDict H' dr (firstIn (rrm things b) (r + 1)) → Q (.ref p) H'
theorem ok_firsts_of (T : Bt mg) (G_sides_of : Has P w K mg base 1 "sides_of" ["lane"] spSidesOf) (G_left_room : Has P w K mg base 1 "left_room" ["lane", "x"] spLeftRoom) (G_right_room : Has P w K mg base 1 "right_room" ["lane", "y"] spRightRoom) (F : FnP K "firsts_of" s_firsts_of f fd) : FnOk P w K mg base CX0 2 f fd ["lane"] spFirstsOf := by
  refine F.ok sc_firsts_of (fun vs H Q E h => ?_) (fun cdv A outer s H vs Q E hr h => ?_)
  · obtain ⟨a, b, r, things, rfl, L, sok, q⟩ := h
    rfl
  obtain ⟨a, b, r, things, rfl, L, sok, q⟩ := h
  refine ⟨_, (PSs.nox (pss_cons (ps_asg (pe_fn G_sides_of (hr.mono (by decide)) (pa_cons (pv 0) pa_nil)) (pg_tup rfl (pgs_cons (pg_name (i := 1) sc_firsts_of.nd rfl (Or.inl rfl)) (pgs_cons (pg_name (i := 2) sc_firsts_of.nd rfl (Or.inl rfl)) pgs_nil))))
  (pss_cons (ps_par (i := 3) (j := 4) (by rfl) sc_firsts_of.nd rfl rfl (by decide) rfl rfl (pa_cons pe_dnewK (pa_cons pe_dnewK pa_nil)) (by rfl))
  (pss_cons (ps_for PassesOwn.never rfl (pi_range1 (by rfl) T.range (pa_cons (pe_op op_add (pv 1) pe_int) pa_nil)) (pg_name (i := 5) sc_firsts_of.nd rfl (Or.inl rfl)) (pss_one (ps_for PassesOwn.never rfl (pi_str (pe_fn G_left_room (hr.mono (by decide)) (pa_cons (pv 0) (pa_cons (pv 5) pa_nil)))) (pg_name (i := 6) sc_firsts_of.nd rfl (Or.inl rfl)) (pss_one (ps_expr (pe_dsetd (pv 3) (pv 6) (pv 5) ⟨rfl, rfl, rfl, rfl⟩))))))
  (pss_cons (ps_for PassesOwn.never rfl (pi_range1 (by rfl) T.range (pa_cons (pe_op op_add (pv 2) pe_int) pa_nil)) (pg_name (i := 7) sc_firsts_of.nd rfl (Or.inl rfl)) (pss_one (ps_for PassesOwn.never rfl (pi_str (pe_fn G_right_room (hr.mono (by decide)) (pa_cons (pv 0) (pa_cons (pv 7) pa_nil)))) (pg_name (i := 6) sc_firsts_of.nd rfl (Or.inl rfl)) (pss_one (ps_expr (pe_dsetd (pv 4) (pv 6) (pv 7) ⟨rfl, rfl, rfl, rfl⟩))))))
  (pss_one (ps_ret (pe_tup (pa_cons (pv 3) (pa_cons (pv 4) pa_nil)))))))))), ?_⟩
  walk_at "rd"
  refine ⟨a, b, r, things, rfl, L, fun p H1 g1 hp => ?_⟩
  walk_at "rd"
  refine ⟨p, _, rfl, SqT.of hp, rfl, ?_⟩
  walk_at "rd"
  intro dl hdl
  walk_at "rd"
  intro dr hdr
  walk_at "rd"
  have hm := L.most
  have hl := L.len
  have ne : dl ≠ dr := fun e => by rw [← e, upd_same] at hdr; cases hdr
  have hdr1 : H1 dr = none := by rw [upd_ne (Ne.symm ne)] at hdr; exact hdr
  have hL0 : H dl = none := Same.none g1 hdl
  have hR0 : H dr = none := Same.none g1 hdr1
  refine ⟨by omega, by omega, ?_⟩
  rw [show ((b : Int) + 1).toNat = b + 1 by omega]
  refine for_it walk_range (fun x σ H' => Same H H' ∧ (∃ kvs, H' dl = some (.dK kvs) ∧ kvs.length ≤ 100 * x ∧ FstOf kvs (firstIn (lrm things b) x)) ∧ H' dr = some (.dK []) ∧
    ∃ u v y, σ = [some (.ref a), some (.int b), some (.int r), some (.ref dl), some (.ref dr), u, v, y])
    ⟨Same.mut (Same.mut g1 hL0) hR0, ⟨[], by rw [upd_ne ne, upd_same], Nat.zero_le _, fun c => rfl⟩, upd_same, _, _, _, rfl⟩ (fun _ _ _ _ _ => trivial) ?_ (fun σ H2 p2 => ?_)
  · rintro x i0 σ H2 H3 hx ⟨g2, ⟨kvs, hk, hkl, hkf⟩, hr2, u0, v0, y0, rfl⟩ ⟨rfl, rfl⟩
    walk_at "rd"
    obtain ⟨z, hz⟩ := thing_at (things := things) (i := 2 * (b - x)) (by omega)
    have zok := sok z (List.mem_of_getElem? hz)
    refine ⟨a, b, r, x, things, z, by simp, L.mono (Same.t g2), by omega, hz, z, rfl, ?_⟩
    refine for_it walk_str (fun j σ H' => Same H H' ∧ (∃ kvs, H' dl = some (.dK kvs) ∧ kvs.length ≤ 100 * x + j ∧ FstOf kvs (firstMid (lrm things b) x j)) ∧ H' dr = some (.dK []) ∧
      ∃ v y, σ = [some (.ref a), some (.int b), some (.int r), some (.ref dl), some (.ref dr), some (.int x), v, y])
      ⟨g2, ⟨kvs, hk, hkl, fun c => by rw [firstMid_0]; exact hkf c⟩, hr2, v0, y0, by simp⟩ (fun _ _ _ _ _ => trivial) ?_ (fun σ H4 p4 => ?_)
    · rintro j i1 σ H4 H5 hj ⟨g4, ⟨kvs4, hk4, hkl4, hkf4⟩, hr4, v4, y4, rfl⟩ ⟨rfl, c, hc, rfl⟩
      have hd : (lrm things b x)[j]? = some c := by rw [lrm, cds_at hz]; exact code_at hc
      walk_at "rd"
      refine ⟨.inl ⟨kvs4, .inl hk4⟩, ?_⟩
      walk_at "rd"
      refine ⟨kvs4, sK c, hk4, rfl, Nat.lt_of_le_of_lt (m := 10000) ?_ (by decide), fun v hv => ?_, fun hv => ?_⟩
      · have h9 := zok.len
        have h10 : z.length = z.cps.size := rfl
        omega
      · exact ⟨g4, ⟨kvs4, hk4, by omega, fst_old hkf4 hd hv⟩, hr4, _, _, rfl⟩
      · refine ⟨Same.mut g4 hL0, ⟨_, upd_same, ?_, fst_new hkf4 hd hv⟩, by rw [upd_ne (Ne.symm ne)]; exact hr4, _, _, rfl⟩
        have := length_putK kvs4 (sK c) (.int (x : Nat))
        omega
    · obtain ⟨g4, ⟨kvs4, hk4, hkl4, hkf4⟩, hr4, v4, y4, rfl⟩ := p4
      refine ⟨g4, ⟨kvs4, hk4, ?_, fun c => ?_⟩, hr4, _, _, _, rfl⟩
      · have h9 := zok.len
        have h10 : z.length = z.cps.size := rfl
        omega
      · rw [← firstMid_all]
        have h11 : (lrm things b x).length = z.cps.size := by rw [lrm, cds_at hz]; simp
        rw [h11]
        exact hkf4 c
  obtain ⟨g2, ⟨kl, hkl, hkll, hklf⟩, hr2, u0, v0, y0, rfl⟩ := p2
  walk_at "rd"
  refine ⟨by omega, by omega, ?_⟩
  rw [show ((r : Int) + 1).toNat = r + 1 by omega]
  refine for_it walk_range (fun x σ H' => Same H H' ∧ (∃ kvs, H' dr = some (.dK kvs) ∧ kvs.length ≤ 100 * x ∧ FstOf kvs (firstIn (rrm things b) x)) ∧ H' dl = some (.dK kl) ∧
    ∃ u v y, σ = [some (.ref a), some (.int b), some (.int r), some (.ref dl), some (.ref dr), u, v, y])
    ⟨g2, ⟨[], hr2, Nat.zero_le _, fun c => rfl⟩, hkl, _, _, _, rfl⟩ (fun _ _ _ _ _ => trivial) ?_ (fun σ H6 p6 => ?_)
  · rintro x i0 σ H2 H3 hx ⟨g2, ⟨kvs, hk, hkl, hkf⟩, hr2, u0, v0, y0, rfl⟩ ⟨rfl, rfl⟩
    walk_at "rd"
    obtain ⟨z, hz⟩ := thing_at (things := things) (i := 2 * (b + x)) (by omega)
    have zok := sok z (List.mem_of_getElem? hz)
    refine ⟨a, b, r, x, things, z, by simp, L.mono (Same.t g2), hz, z, rfl, ?_⟩
    refine for_it walk_str (fun j σ H' => Same H H' ∧ (∃ kvs, H' dr = some (.dK kvs) ∧ kvs.length ≤ 100 * x + j ∧ FstOf kvs (firstMid (rrm things b) x j)) ∧ H' dl = some (.dK kl) ∧
      ∃ u v, σ = [some (.ref a), some (.int b), some (.int r), some (.ref dl), some (.ref dr), u, v, some (.int x)])
      ⟨g2, ⟨kvs, hk, hkl, fun c => by rw [firstMid_0]; exact hkf c⟩, hr2, u0, v0, by simp⟩ (fun _ _ _ _ _ => trivial) ?_ (fun σ H4 p4 => ?_)
    · rintro j i1 σ H4 H5 hj ⟨g4, ⟨kvs4, hk4, hkl4, hkf4⟩, hr4, v4, y4, rfl⟩ ⟨rfl, c, hc, rfl⟩
      have hd : (rrm things b x)[j]? = some c := by rw [rrm, cds_at hz]; exact code_at hc
      walk_at "rd"
      refine ⟨.inl ⟨kvs4, .inl hk4⟩, ?_⟩
      walk_at "rd"
      refine ⟨kvs4, sK c, hk4, rfl, Nat.lt_of_le_of_lt (m := 10000) ?_ (by decide), fun v hv => ?_, fun hv => ?_⟩
      · have h9 := zok.len
        have h10 : z.length = z.cps.size := rfl
        omega
      · exact ⟨g4, ⟨kvs4, hk4, by omega, fst_old hkf4 hd hv⟩, hr4, _, _, rfl⟩
      · refine ⟨Same.mut g4 hR0, ⟨_, upd_same, ?_, fst_new hkf4 hd hv⟩, by rw [upd_ne ne]; exact hr4, _, _, rfl⟩
        have := length_putK kvs4 (sK c) (.int (x : Nat))
        omega
    · obtain ⟨g4, ⟨kvs4, hk4, hkl4, hkf4⟩, hr4, v4, y4, rfl⟩ := p4
      refine ⟨g4, ⟨kvs4, hk4, ?_, fun c => ?_⟩, hr4, _, _, _, rfl⟩
      · have h9 := zok.len
        have h10 : z.length = z.cps.size := rfl
        omega
      · rw [← firstMid_all]
        have h11 : (rrm things b x).length = z.cps.size := by rw [rrm, cds_at hz]; simp
        rw [h11]
        exact hkf4 c
  · obtain ⟨g6, ⟨kr, hkr, hkrl, hkrf⟩, hr6, u6, v6, y6, rfl⟩ := p6
    walk_at "rd"
    refine ⟨by simp [sizeLine], fun p8 hp8 => ?_⟩
    refine q p8 dl dr _ (Same.mut g6 (Same.none g6 hp8)) upd_same ⟨kl, ?_, hklf⟩ ⟨kr, ?_, hkrf⟩
    · rw [upd_ne (ne_of_none hr6 hp8)]; exact hr6
    · rw [upd_ne (ne_of_none hkr hp8)]; exact hkr
end
end Kl

/-! ## D6 -/
namespace Kl
open PySem PySem.Spec PyProof.Rows L2
local macro_rules | `(tactic| walk_at "rd") => `(tactic| repeat (first | refine ⟨_, rfl, ?_⟩ | refine ⟨_, _, rfl, rfl, ?_⟩ | refine ⟨_, _, rfl, ?_⟩ | refine ⟨rfl, ?_⟩ | refine ⟨Or.inl ⟨by decide, by decide⟩, ?_⟩ | refine ⟨Or.inr ⟨by decide, by decide⟩, ?_⟩ | refine ⟨⟨by decide, by decide⟩, ?_⟩ | refine ⟨by decide, ?_⟩ | refine ⟨show (0 : Int) < _ from by decide, ?_⟩))
def oV : Option Nat → V
  | none => .non
  | some v => .int (v : Nat)
theorem FDict.mono {H H' : Hp} {p : Addr} {f : Nat → Option Nat} (h : FDict H p f) (g : Same H H') : FDict H' p f := let ⟨kvs, h1, h2⟩ := h; ⟨kvs, g _ _ h1, h2⟩
section
variable {P : Program} {w : World} {K : PySem.W.Frag} {mg : Str → Option Value} {base : Heap} {f : Addr} {fd : FuncData}
abbrev n_held_back : List Str := ["needs", "here", "own", "others", "found", "sign"]
theorem sc_held_back : FnScope n_held_back ["needs", "here", "own", "others"] (defScope s_held_back) := ⟨rfl, rfl, rfl, by decide +kernel, rfl, by decide +kernel, by decide +kernel⟩
def spHeldBack : Sp := fun vs H Q _ => ∃ (z : Str) (x : Nat) (dl dr : Addr) (own others : Nat → Option Nat), vs = [.str z, .int (x : Int), .ref dl, .ref dr] ∧ FDict H dl own ∧ FDict H dr others ∧ Q (oV (hb own others x z.cps.toList 0)) H
theorem ok_held_back (T : Bt mg) (F : FnP K "held_back" s_held_back f fd) : FnOk P w K mg base CX0 1 f fd ["needs", "here", "own", "others"] spHeldBack := by
  refine F.ok sc_held_back (fun vs H Q E h => ?_) (fun cdv A outer s H vs Q E hr h => ?_)
  · obtain ⟨z, x, dl, dr, own, others, rfl, ⟨kl, hl, fl⟩, ⟨kr, hr2, fr⟩, q⟩ := h
    rfl
  obtain ⟨z, x, dl, dr, own, others, rfl, ⟨kl, hl, fl⟩, ⟨kr, hr2, fr⟩, q⟩ := h
  refine ⟨_, (PSs.nox (pss_cons (ps_set (i := 4) sc_held_back.nd rfl (Or.inl rfl) pe_int)
  (pss_cons (ps_for PassesOwn.never rfl (pi_str (pv 0)) (pg_name (i := 5) sc_held_back.nd rfl (Or.inl rfl)) (pss_one (ps_if (pt_cmpR op_gt (pe_dget2 (hu_of hr) (pv 2) (pv 5) (pe_op op_add (pv 1) pe_int) ⟨rfl, rfl, rfl, rfl⟩) (pv 1) (nomark _)) (pss_cons (ps_if (pt_cmp (pc_dnotin (hu_of hr) (pv 5) (pv 3))) (pss_one (ps_ret pe_non)) pss_nil)
  (pss_one (ps_set (i := 4) sc_held_back.nd rfl (Or.inl rfl) (pe_callB (call_max2 rfl) (by rfl) T.max (by decide +kernel) (pa_cons (pv 4) (pa_cons (pe_dget (hu_of hr) (pv 3) (pv 5) (fun _ _ => rfl)) pa_nil)))))) pss_nil)))
  (pss_one (ps_ret (pv 4)))))), ?_⟩
  obtain ⟨R, hR⟩ : ∃ R, R = hb own others x z.cps.toList 0 := ⟨_, rfl⟩
  rw [← hR] at q
  walk_at "rd"
  refine for_it walk_str (fun j σ H' => H' = H ∧ ∃ (n : Nat) (y : Option V), σ = [some (.str z), some (.int x), some (.ref dl), some (.ref dr), some (.int n), y] ∧ hb own others x (z.cps.toList.drop j) n = R)
    ⟨rfl, 0, none, rfl, hR.symm⟩ (fun _ _ _ _ _ => trivial) ?_ (fun σ H4 p4 => ?_)
  · rintro j i0 σ H2 H3 hj ⟨rfl, n, y, rfl, e⟩ ⟨rfl, c, hc, rfl⟩
    have hd : z.cps.toList.drop j = c :: z.cps.toList.drop (j + 1) := by
      obtain ⟨h1, h2⟩ := List.getElem?_eq_some_iff.mp (code_at hc)
      rw [List.drop_eq_getElem_cons h1, h2]
    rw [hd] at e
    unfold hb at e
    walk_at "rd"
    refine ⟨.inl ⟨kl, .inl hl⟩, ?_⟩
    walk_at "rd"
    refine ⟨_, DGet.k (k := sK c) hl, ?_⟩
    have e1 : ((Option.map (fun x => V.int ((x : Nat) : Int)) (own c)).getD (V.int ((x : Int) + 1))) = V.int (((own c).getD (x + 1) : Nat) : Int) := by
      cases own c <;> rfl
    rw [fl c, e1]
    walk_at "rd"
    by_cases hw : x < (own c).getD (x + 1)
    · rw [if_pos hw] at e
      (refine iteT ?_ ?_; (· exact decide_eq_true (by omega)))
      walk_at "rd"
      refine ⟨dr, _, rfl, DGet.k (k := sK c) hr2, ?_⟩
      rw [fr c]
      cases ho : others c with
      | none =>
        rw [ho] at e
        walk_at "rd"
        rw [← e] at q
        exact q
      | some v =>
        rw [ho] at e
        walk_at "rd"
        refine ⟨dr, V.int (v : Nat), rfl, ?_, ?_⟩
        · have := DGet.k (k := sK c) hr2
          rw [fr c, ho] at this
          exact this
        walk_at "rd"
        rw [show (if ((v : Nat) : Int) > ((n : Nat) : Int) then ((v : Nat) : Int) else ((n : Nat) : Int)) = ((max n v : Nat) : Int) by split <;> omega]
        exact ⟨_, _, rfl, e⟩
    · rw [if_neg hw] at e
      (refine iteF ?_ ?_; (· exact decide_eq_false (by omega)))
      exact ⟨rfl, n, _, rfl, e⟩
  · obtain ⟨rfl, n, y, rfl, e⟩ := p4
    walk_at "rd"
    rw [List.drop_eq_nil_of_le (by simp)] at e
    rw [← e] at q
    exact q
/-- the thresholds of a lane -/
def tleft (things : List Str) (b r : Nat) : List (Option Nat) := (List.range b).map fun x => hb (firstIn (lrm things b) (b + 1)) (firstIn (rrm things b) (r + 1)) x (ldr things b x) 0
def tright (things : List Str) (b r : Nat) : List (Option Nat) := (List.range r).map fun y => hb (firstIn (rrm things b) (r + 1)) (firstIn (lrm things b) (b + 1)) y (rdr things b y) 0
/-- a row of thresholds -/
def RowH (H : Hp) (a : Addr) (row : List (Option Nat)) : Prop := H a = some (.tup (row.map oV))
theorem RowH.mono {H H' : Hp} {a : Addr} {row : List (Option Nat)} (h : RowH H a row) (g : TSame H H') : RowH H' a row := g _ _ h
abbrev n_thresholds_of : List Str := ["lane", "many_left", "many_right", "left", "right", "lefts", "rights", "x", "y"]
theorem sc_thresholds_of : FnScope n_thresholds_of ["lane"] (defScope s_thresholds_of) := ⟨rfl, rfl, rfl, by decide +kernel, rfl, by decide +kernel, by decide +kernel⟩
def spThresholdsOf : Sp := fun vs H Q _ => ∃ (a : Addr) (b r : Nat) (things : List Str), vs = [.ref a] ∧ LaneH H a b r things ∧ (∀ z ∈ things, SetOk z) ∧
  ∀ p l m H', Same H H' → H' p = some (.tup [.ref l, .ref m]) → RowH H' l (tleft things b r) → RowH H' m (tright things b r) → Q (.ref p) H'
theorem ok_thresholds_of (T : Bt mg) (G_sides_of : Has P w K mg base 1 "sides_of" ["lane"] spSidesOf) (G_firsts_of : Has P w K mg base 2 "firsts_of" ["lane"] spFirstsOf) (G_held_back : Has P w K mg base 1 "held_back" ["needs", "here", "own", "others"] spHeldBack) (G_left_door : Has P w K mg base 1 "left_door" ["lane", "x"] spLeftDoor) (G_right_door : Has P w K mg base 1 "right_door" ["lane", "y"] spRightDoor) (F : FnP K "thresholds_of" s_thresholds_of f fd) : FnOk P w K mg base CX0 3 f fd ["lane"] spThresholdsOf := by
  refine F.ok sc_thresholds_of (fun vs H Q E h => ?_) (fun cdv A outer s H vs Q E hr h => ?_)
  · obtain ⟨a, b, r, things, rfl, L, sok, q⟩ := h
    rfl
  obtain ⟨a, b, r, things, rfl, L, sok, q⟩ := h
  refine ⟨_, (pss_cons (ps_asg (pe_fn G_sides_of (hr.mono (by decide)) (pa_cons (pv 0) pa_nil)) (pg_tup rfl (pgs_cons (pg_name (i := 1) sc_thresholds_of.nd rfl (Or.inl rfl)) (pgs_cons (pg_name (i := 2) sc_thresholds_of.nd rfl (Or.inl rfl)) pgs_nil))))
  (pss_cons (ps_asg (pe_fn G_firsts_of (hr.mono (by decide)) (pa_cons (pv 0) pa_nil)) (pg_tup rfl (pgs_cons (pg_name (i := 3) sc_thresholds_of.nd rfl (Or.inr rfl)) (pgs_cons (pg_name (i := 4) sc_thresholds_of.nd rfl (Or.inr rfl)) pgs_nil))))
  (pss_cons (ps_setLc (i := 5) (own := [("x", 7)]) (g := (gName 7)) (tt := tYes) rfl sc_thresholds_of.nd rfl rfl (sw_true rfl rfl rfl (by decide +kernel)) (pi_range1 (by rfl) T.range (pa_cons (pv 1) pa_nil)) (blkOk_by (own := [("x", 7)]) (N := n_thresholds_of) (sc := defScope s_thresholds_of) (by decide +kernel)) (fun _ _ _ _ _ => (pg_name (i := 7) sc_thresholds_of.nd rfl (Or.inl rfl))) (fun _ _ _ _ _ => pts_nil) (fun _ _ _ _ _ => (pe_fn G_held_back (hr.mono (by decide)) (pa_cons (pe_fn G_left_door (hr.mono (by decide)) (pa_cons (pv 0) (pa_cons (pv 7) pa_nil))) (pa_cons (pv 7) (pa_cons (pv 3) (pa_cons (pv 4) pa_nil)))))))
  (pss_cons (ps_setLc (i := 6) (own := [("y", 8)]) (g := (gName 8)) (tt := tYes) rfl sc_thresholds_of.nd rfl rfl (sw_true rfl rfl rfl (by decide +kernel)) (pi_range1 (by rfl) T.range (pa_cons (pv 2) pa_nil)) (blkOk_by (own := [("y", 8)]) (N := n_thresholds_of) (sc := defScope s_thresholds_of) (by decide +kernel)) (fun _ _ _ _ _ => (pg_name (i := 8) sc_thresholds_of.nd rfl (Or.inl rfl))) (fun _ _ _ _ _ => pts_nil) (fun _ _ _ _ _ => (pe_fn G_held_back (hr.mono (by decide)) (pa_cons (pe_fn G_right_door (hr.mono (by decide)) (pa_cons (pv 0) (pa_cons (pv 8) pa_nil))) (pa_cons (pv 8) (pa_cons (pv 4) (pa_cons (pv 3) pa_nil)))))))
  (pss_one (ps_ret (pe_tup (pa_cons (pe_callTy call_tuple_of (by rfl) T.tuple (by decide +kernel) (pa_cons (pv 5) pa_nil)) (pa_cons (pe_callTy call_tuple_of (by rfl) T.tuple (by decide +kernel) (pa_cons (pv 6) pa_nil)) pa_nil))))))))), ?_⟩
  walk_at "rd"
  refine ⟨a, b, r, things, rfl, L, fun p H1 g1 hp => ?_⟩
  walk_at "rd"
  refine ⟨p, _, rfl, SqT.of hp, rfl, ?_⟩
  walk_at "rd"
  refine ⟨a, b, r, things, rfl, L.mono (Same.t g1), sok, fun p2 dl dr H2 g2 hp2 hdl hdr => ?_⟩
  walk_at "rd"
  refine ⟨p2, _, rfl, SqT.of hp2, rfl, ?_⟩
  walk_at "rd"
  have hm := L.most
  have hl := L.len
  refine ⟨by omega, by omega, ?_⟩
  rw [show ((b : Int)).toNat = b by omega]
  intro D hD
  refine lc_val walk_range (fun x => some (oV (hb (firstIn (lrm things b) (b + 1)) (firstIn (rrm things b) (r + 1)) x (ldr things b x) 0))) hD (sz100 (by omega)) (fun _ _ => trivial) ?_ ?_
  · rintro i x H3 H4 R R0 hi g3 ⟨rfl, rfl⟩ k k0
    refine ⟨rfl, ?_⟩
    walk_at "rd"
    obtain ⟨z, hz⟩ := thing_at (things := things) (i := 2 * (b - i) - 1) (by omega)
    walk_at "rd"
    refine ⟨a, b, r, i, things, z, by simp, L.mono (Same.t (g1.trans (g2.trans g3))), hi, hz, ?_⟩
    walk_at "rd"
    refine ⟨z, i, dl, dr, _, _, by simp, hdl.mono g3, hdr.mono g3, ?_⟩
    rw [← cds_at hz]
    exact k _ _ rfl (Same.refl _)
  · intro H3 g3 hl3
    rw [fm_map] at hl3
    walk_at "rd"
    refine ⟨by omega, by omega, ?_⟩
    rw [show ((r : Int)).toNat = r by omega]
    intro D2 hD2
    have g13 := g1.trans (g2.trans g3)
    refine lc_val walk_range (fun y => some (oV (hb (firstIn (rrm things b) (r + 1)) (firstIn (lrm things b) (b + 1)) y (rdr things b y) 0))) hD2 (sz100 (by omega)) (fun _ _ => trivial) ?_ ?_
    · rintro i x H4 H5 R R0 hi g4 ⟨rfl, rfl⟩ k k0
      refine ⟨rfl, ?_⟩
      walk_at "rd"
      obtain ⟨z, hz⟩ := thing_at (things := things) (i := 2 * (b + i) + 1) (by omega)
      walk_at "rd"
      refine ⟨a, b, r, i, things, z, by simp, L.mono (Same.t (g13.trans g4)), hz, ?_⟩
      walk_at "rd"
      refine ⟨z, i, dr, dl, _, _, by simp, hdr.mono (g3.trans g4), hdl.mono (g3.trans g4), ?_⟩
      rw [← cds_at hz]
      exact k _ _ rfl (Same.refl _)
    · intro H4 g4 hl4
      rw [fm_map] at hl4
      walk_at "rd"
      refine ⟨D, _, rfl, .inl ⟨SqL.of (g4 _ _ hl3), fun l hl => ?_⟩⟩
      walk_at "rd"
      refine ⟨D2, _, rfl, .inl ⟨SqL.of ((same_new hl _) _ _ hl4), fun m hm2 => ?_⟩⟩
      walk_at "rd"
      refine ⟨by simp [sizeLine], fun p8 hp8 => ?_⟩
      have s1 := same_new hl (HO.tup ((List.range b).map fun x => oV (hb (firstIn (lrm things b) (b + 1)) (firstIn (rrm things b) (r + 1)) x (ldr things b x) 0)))
      have s2 := same_new hm2 (HO.tup ((List.range r).map fun y => oV (hb (firstIn (rrm things b) (r + 1)) (firstIn (lrm things b) (b + 1)) y (rdr things b y) 0)))
      have s3 := same_new hp8 (HO.tup [V.ref l, V.ref m])
      refine q p8 l m _ (g13.trans (g4.trans (s1.trans (s2.trans s3)))) upd_same ?_ ?_
      · refine s3 _ _ (s2 _ _ ?_)
        rw [upd_same, tleft, List.map_map]
        rfl
      · refine s3 _ _ ?_
        rw [upd_same, tright, List.map_map]
        rfl
theorem tleft_len (things : List Str) (b r : Nat) : (tleft things b r).length = b := by simp [tleft]
theorem tright_len (things : List Str) (b r : Nat) : (tright things b r).length = r := by simp [tright]
theorem tleft_le {things : List Str} {b r : Nat} {v : Nat} (h : some v ∈ tleft things b r) : v ≤ r := by
  unfold tleft at h
  obtain ⟨x, _, e⟩ := List.mem_map.mp h
  exact hb_le (fun c v h => Nat.le_of_lt_succ (firstIn_lt h)) _ _ _ (Nat.zero_le _) e
theorem tright_le {things : List Str} {b r : Nat} {v : Nat} (h : some v ∈ tright things b r) : v ≤ b := by
  unfold tright at h
  obtain ⟨x, _, e⟩ := List.mem_map.mp h
  exact hb_le (fun c v h => Nat.le_of_lt_succ (firstIn_lt h)) _ _ _ (Nat.zero_le _) e
abbrev n_sides : List Str := ["lane"]
theorem sc_sides : FnScope n_sides ["lane"] (defScope s_sides) := ⟨rfl, rfl, rfl, by decide +kernel, rfl, by decide +kernel, by decide +kernel⟩
def spSides : Sp := fun vs H Q _ => ∃ (a : Addr) (b r : Nat) (things : List Str), vs = [.ref a] ∧ LaneH H a b r things ∧ (∀ z ∈ things, SetOk z) ∧ ∀ p H', Same H H' → H' p = some (.tup [.int (b : Int), .int (r : Int)]) → Q (.ref p) H'
theorem ok_sides (G_need_lane : Has P w K mg base 3 "need_lane" ["value"] spNeedLane) (G_sides_of : Has P w K mg base 1 "sides_of" ["lane"] spSidesOf) (F : FnP K "sides" s_sides f fd) : FnOk P w K mg base CX0 4 f fd ["lane"] spSides := by
  refine F.ok sc_sides (fun vs H Q E h => ?_) (fun cdv A outer s H vs Q E hr h => ?_)
  · obtain ⟨a, b, r, things, rfl, L, sok, q⟩ := h
    rfl
  obtain ⟨a, b, r, things, rfl, L, sok, q⟩ := h
  refine ⟨_, (pss_cons (ps_expr (pe_fn G_need_lane (hr.mono (by decide)) (pa_cons (pv 0) pa_nil)))
  (pss_one (ps_ret (pe_fn G_sides_of (hr.mono (by decide)) (pa_cons (pv 0) pa_nil))))), ?_⟩
  walk_at "rd"
  refine ⟨a, b, r, things, rfl, L, sok, fun H1 g1 => ?_⟩
  walk_at "rd"
  exact ⟨a, b, r, things, rfl, L.mono (Same.t g1), fun p H2 g2 hp => q p H2 (g1.trans g2) hp⟩
abbrev n_thresholds : List Str := ["lane"]
theorem sc_thresholds : FnScope n_thresholds ["lane"] (defScope s_thresholds) := ⟨rfl, rfl, rfl, by decide +kernel, rfl, by decide +kernel, by decide +kernel⟩
theorem ok_thresholds (G_need_lane : Has P w K mg base 3 "need_lane" ["value"] spNeedLane) (G_thresholds_of : Has P w K mg base 3 "thresholds_of" ["lane"] spThresholdsOf) (F : FnP K "thresholds" s_thresholds f fd) : FnOk P w K mg base CX0 4 f fd ["lane"] spThresholdsOf := by
  refine F.ok sc_thresholds (fun vs H Q E h => ?_) (fun cdv A outer s H vs Q E hr h => ?_)
  · obtain ⟨a, b, r, things, rfl, L, sok, q⟩ := h
    rfl
  obtain ⟨a, b, r, things, rfl, L, sok, q⟩ := h
  refine ⟨_, (pss_cons (ps_expr (pe_fn G_need_lane (hr.mono (by decide)) (pa_cons (pv 0) pa_nil)))
  (pss_one (ps_ret (pe_fn G_thresholds_of (hr.mono (by decide)) (pa_cons (pv 0) pa_nil))))), ?_⟩
  walk_at "rd"
  refine ⟨a, b, r, things, rfl, L, sok, fun H1 g1 => ?_⟩
  walk_at "rd"
  exact ⟨a, b, r, things, rfl, L.mono (Same.t g1), sok, fun p l m H2 g2 hp => q p l m H2 (g1.trans g2) hp⟩
end
end Kl

/-! ## D7 -/
namespace Kl
open PySem PySem.Spec PyProof.Rows L2
local macro_rules | `(tactic| walk_at "rd") => `(tactic| repeat (first | refine ⟨_, rfl, ?_⟩ | refine ⟨_, _, rfl, rfl, ?_⟩ | refine ⟨_, _, rfl, ?_⟩ | refine ⟨rfl, ?_⟩ | refine ⟨Or.inl ⟨by decide, by decide⟩, ?_⟩ | refine ⟨Or.inr ⟨by decide, by decide⟩, ?_⟩ | refine ⟨⟨by decide, by decide⟩, ?_⟩ | refine ⟨by decide, ?_⟩ | refine ⟨show (0 : Int) < _ from by decide, ?_⟩))
/-- a pair of numbers -/
abbrev ColH (H : Hp) (v : V) (c : Nat × Nat) : Prop := ∃ p, v = .ref p ∧ H p = some (.tup [.int (c.1 : Nat), .int (c.2 : Nat)])
theorem ColH.mono {H H' : Hp} {v : V} {c : Nat × Nat} (g : TSame H H') (h : ColH H v c) : ColH H' v c := let ⟨p, h1, h2⟩ := h; ⟨p, h1, g _ _ h2⟩
/-- a region -/
def RegH (H : Hp) (a : Addr) (g : Reg) : Prop := ∃ xs, H a = some (.tup xs) ∧ Paired (ColH H) xs g
theorem RegH.mono {H H' : Hp} {a : Addr} {g : Reg} (h : RegH H a g) (t : TSame H H') : RegH H' a g := let ⟨xs, h1, h2⟩ := h; ⟨xs, t _ _ h1, paired_mono h2 fun _ _ => ColH.mono t⟩
theorem boolAnd {p q : Prop} [Decidable p] [Decidable q] (hp : p) (hq : q) : (decide p && decide q) = true := by rw [decide_eq_true hp, decide_eq_true hq]; rfl
theorem at_last {α : Type} {xs : List α} {j : Nat} {v : α} (hl : xs.length = j + 1) (h : xs[j]? = some v) : atI xs (-1) = some v := by
  obtain ⟨h1, h2⟩ := List.getElem?_eq_some_iff.mp h
  have e : xs = xs.dropLast ++ [v] := by
    have hn : xs ≠ [] := fun z => by rw [z] at hl; cases hl
    have e1 := (List.dropLast_concat_getLast hn).symm
    rw [List.getLast_eq_getElem] at e1
    have e2 : xs[xs.length - 1]'(by omega) = v := by
      rw [← h2]
      congr 1
      omega
    rw [e2] at e1
    exact e1
  rw [e]
  exact atI_last _ v
section
variable {P : Program} {w : World} {K : PySem.W.Frag} {mg : Str → Option Value} {base : Heap} {f : Addr} {fd : FuncData}
abbrev n_is_column : List Str := ["value"]
theorem sc_is_column : FnScope n_is_column ["value"] (defScope s_is_column) := ⟨rfl, rfl, rfl, by decide +kernel, rfl, by decide +kernel, by decide +kernel⟩
def spIsColumn : Sp := fun vs H Q _ => ∃ (p : Addr) (lo hi : Nat), vs = [.ref p] ∧ H p = some (.tup [.int lo, .int hi]) ∧ lo ≤ hi ∧ hi ≤ 59 ∧ Q (.bl true) H
theorem ok_is_column (T : Bt mg) (G_is_in : Has P w K mg base 2 "is_in" ["value", "least", "most"] spIsIn) (F : FnP K "is_column" s_is_column f fd) : FnOk P w K mg base CX0 3 f fd ["value"] spIsColumn := by
  refine F.ok sc_is_column (fun vs H Q E h => ?_) (fun cdv A outer s H vs Q E hr h => ?_)
  · obtain ⟨p, lo, hi, rfl, h1, h2, h3, q⟩ := h
    rfl
  obtain ⟨p, lo, hi, rfl, h1, h2, h3, q⟩ := h
  obtain ⟨tM, hMR⟩ := T.mr
  refine ⟨_, (pss_cons (ps_if (PW.pt (pw_or (pt_not (pt_val (pe_callB call_isi (by rfl) T.isi (by decide +kernel) (pa_cons (pv 0) (pa_cons (pe_bltn (v := .ty "tuple") (u := .type "tuple") (by rfl) T.tuple (by decide +kernel) rfl) pa_nil))))) (pw_or1 (pt_cmpR op_ne (pe_callB call_len_seq (by rfl) T.len (by decide +kernel) (pa_cons (pv 0) pa_nil)) pe_int (nomark _))))) (pss_one (ps_ret pe_bl)) pss_nil)
  (pss_one (ps_ret (pe_and (pe_fn G_is_in (hr.mono (by decide)) (pa_cons (pe_ix ix_tup (pv 0) pe_int (fun _ _ => rfl)) (pa_cons pe_int (pa_cons (pe_op op_sub (pe_glob (v := .int 60) (by rfl) hMR ⟨_, rfl⟩) pe_int) pa_nil)))) (pe_one (pe_fn G_is_in (hr.mono (by decide)) (pa_cons (pe_ix ix_tup (pv 0) pe_int (fun _ _ => rfl)) (pa_cons (pe_ix ix_tup (pv 0) pe_int (fun _ _ => rfl)) (pa_cons (pe_op op_sub (pe_glob (v := .int 60) (by rfl) hMR ⟨_, rfl⟩) pe_int) pa_nil))))))))), ?_⟩
  walk_at "rd"
  refine ⟨_, _, _, _, true, rfl, .ty _, .base (.tup h1), kit_ty (by decide +kernel), ?_⟩
  walk_at "rd"
  refine ⟨p, _, rfl, .inr (SqT.of h1), ?_⟩
  walk_at "rd"
  refine ⟨p, _, _, _, rfl, rfl, SqT.of h1, rfl, ?_⟩
  walk_at "rd"
  refine ⟨_, _, _, rfl, ?_⟩
  rw [boolAnd (by omega) (by omega)]
  walk_at "rd"
  refine ⟨p, _, _, _, rfl, rfl, SqT.of h1, rfl, ?_⟩
  walk_at "rd"
  refine ⟨p, _, _, _, rfl, rfl, SqT.of h1, rfl, ?_⟩
  walk_at "rd"
  refine ⟨_, _, _, rfl, ?_⟩
  rw [boolAnd (by omega) (by omega)]
  exact q
abbrev n_fits_behind : List Str := ["one", "other"]
theorem sc_fits_behind : FnScope n_fits_behind ["one", "other"] (defScope s_fits_behind) := ⟨rfl, rfl, rfl, by decide +kernel, rfl, by decide +kernel, by decide +kernel⟩
def spFitsBehind : Sp := fun vs H Q _ => ∃ (p p2 : Addr) (lo hi lo' hi' : Nat), vs = [.ref p, .ref p2] ∧ H p = some (.tup [.int lo, .int hi]) ∧ H p2 = some (.tup [.int lo', .int hi']) ∧ lo ≤ lo' ∧ lo' ≤ hi ∧ hi ≤ hi' ∧ Q (.bl true) H
theorem ok_fits_behind (T : Bt mg) (F : FnP K "fits_behind" s_fits_behind f fd) : FnOk P w K mg base CX0 1 f fd ["one", "other"] spFitsBehind := by
  refine F.ok sc_fits_behind (fun vs H Q E h => ?_) (fun cdv A outer s H vs Q E hr h => ?_)
  · obtain ⟨p, p2, lo, hi, lo', hi', rfl, h1, h2, h3, h4, h5, q⟩ := h
    rfl
  obtain ⟨p, p2, lo, hi, lo', hi', rfl, h1, h2, h3, h4, h5, q⟩ := h
  refine ⟨_, (pss_one (ps_ret (pe_chain3 op_le op_le op_le (pe_ix ix_tup (pv 0) pe_int (fun _ _ => rfl)) (pe_ix ix_tup (pv 1) pe_int (fun _ _ => rfl)) (pe_ix ix_tup (pv 0) pe_int (fun _ _ => rfl)) (pe_ix ix_tup (pv 1) pe_int (fun _ _ => rfl))))), ?_⟩
  walk_at "rd"
  refine ⟨p, _, _, _, rfl, rfl, SqT.of h1, rfl, ?_⟩
  walk_at "rd"
  refine ⟨p2, _, _, _, rfl, rfl, SqT.of h2, rfl, ?_⟩
  walk_at "rd"
  (refine iteT ?_ ?_; (· exact decide_eq_true (by omega)))
  walk_at "rd"
  refine ⟨p, _, _, _, rfl, rfl, SqT.of h1, rfl, ?_⟩
  walk_at "rd"
  (refine iteT ?_ ?_; (· exact decide_eq_true (by omega)))
  walk_at "rd"
  refine ⟨p2, _, _, _, rfl, rfl, SqT.of h2, rfl, ?_⟩
  walk_at "rd"
  have e : decide ((hi : Int) ≤ (hi' : Int)) = true := decide_eq_true (by omega)
  show Q (V.bl (decide ((hi : Int) ≤ (hi' : Int)))) H
  rw [e]
  exact q
abbrev n_end_of : List Str := ["region"]
theorem sc_end_of : FnScope n_end_of ["region"] (defScope s_end_of) := ⟨rfl, rfl, rfl, by decide +kernel, rfl, by decide +kernel, by decide +kernel⟩
def spEndOf : Sp := fun vs H Q _ => ∃ (a : Addr) (g : Reg), vs = [.ref a] ∧ RegH H a g ∧ 1 ≤ g.length ∧ g.length ≤ 60 ∧ ∀ p H', Same H H' → H' p = some (.tup [.int ((g.length - 1 : Nat) : Int), .int (rightOf g : Nat)]) → Q (.ref p) H'
theorem ok_end_of (T : Bt mg) (F : FnP K "end_of" s_end_of f fd) : FnOk P w K mg base CX0 1 f fd ["region"] spEndOf := by
  refine F.ok sc_end_of (fun vs H Q E h => ?_) (fun cdv A outer s H vs Q E hr h => ?_)
  · obtain ⟨a, g, rfl, ⟨xs, h1, pr⟩, hl, hu, q⟩ := h
    rfl
  obtain ⟨a, g, rfl, ⟨xs, h1, pr⟩, hl, hu, q⟩ := h
  refine ⟨_, (pss_one (ps_ret (pe_tup (pa_cons (pe_op op_sub (pe_callB call_len_seq (by rfl) T.len (by decide +kernel) (pa_cons (pv 0) pa_nil)) pe_int) (pa_cons (pe_ix ix_tup (pe_ix ix_tup (pv 0) (pe_un un_neg pe_int) (fun _ _ => rfl)) pe_int (fun _ _ => rfl)) pa_nil))))), ?_⟩
  walk_at "rd"
  refine ⟨a, _, rfl, .inr (SqT.of h1), ?_⟩
  walk_at "rd"
  have lx := paired_len pr
  obtain ⟨v, hv, c, rfl, hc⟩ := paired_at pr (getD_at (g := g) (i := g.length - 1) (by omega))
  refine ⟨a, _, _, _, rfl, rfl, SqT.of h1, (at_last (j := g.length - 1) (by omega) hv), ?_⟩
  walk_at "rd"
  refine ⟨c, _, _, _, rfl, rfl, SqT.of hc, rfl, ?_⟩
  walk_at "rd"
  refine ⟨by simp [sizeLine], fun p hp => ?_⟩
  refine q p _ (same_new hp _) ?_
  rw [upd_same, lx]
  show some (HO.tup [V.int ((g.length : Int) - 1), V.int (rightOf g : Nat)]) = _
  rw [show ((g.length : Int) - 1) = ((g.length - 1 : Nat) : Int) by omega]
abbrev n_need_region : List Str := ["value", "index", "column"]
theorem sc_need_region : FnScope n_need_region ["value"] (defScope s_need_region) := ⟨rfl, rfl, rfl, by decide +kernel, rfl, by decide +kernel, by decide +kernel⟩
def spNeedRegion : Sp := fun vs H Q _ => ∃ (a : Addr) (g : Reg), vs = [.ref a] ∧ RegH H a g ∧ RegOk g 60 59 ∧ ∀ H', Same H H' → Q .non H'
theorem ok_need_region (T : Bt mg) (G_is_column : Has P w K mg base 3 "is_column" ["value"] spIsColumn) (G_fits_behind : Has P w K mg base 1 "fits_behind" ["one", "other"] spFitsBehind) (F : FnP K "need_region" s_need_region f fd) : FnOk P w K mg base CX0 4 f fd ["value"] spNeedRegion := by
  refine F.ok sc_need_region (fun vs H Q E h => ?_) (fun cdv A outer s H vs Q E hr h => ?_)
  · obtain ⟨a, g, rfl, ⟨xs, h1, pr⟩, ok, q⟩ := h
    rfl
  obtain ⟨a, g, rfl, ⟨xs, h1, pr⟩, ok, q⟩ := h
  obtain ⟨tM, hMR⟩ := T.mr
  refine ⟨_, (PSs.nox (pss_cons (ps_if (PW.pt (pw_or (pt_not (pt_val (pe_callB call_isi (by rfl) T.isi (by decide +kernel) (pa_cons (pv 0) (pa_cons (pe_bltn (v := .ty "tuple") (u := .type "tuple") (by rfl) T.tuple (by decide +kernel) rfl) pa_nil))))) (pw_or1 (pt_not (pt_chain op_le op_le pe_int (pe_callB call_len_seq (by rfl) T.len (by decide +kernel) (pa_cons (pv 0) pa_nil)) (pe_glob (v := .int 60) (by rfl) hMR ⟨_, rfl⟩)))))) (pss_one ps_never) pss_nil)
  (pss_one (ps_for PassesOwn.never rfl (pi_enumT (by rfl) T.enumerate (pa_cons (pv 0) pa_nil)) (pg_tup rfl (pgs_cons (pg_name (i := 1) sc_need_region.nd rfl (Or.inl rfl)) (pgs_cons (pg_name (i := 2) sc_need_region.nd rfl (Or.inl rfl)) pgs_nil))) (pss_cons (ps_if (pt_not (pt_val (pe_fn G_is_column (hr.mono (by decide)) (pa_cons (pv 2) pa_nil)))) (pss_one ps_never) pss_nil)
  (pss_one (ps_if (PW.pt (pw_or (PW.pt (pw_and (pt_cmpR op_eq (pv 1) pe_int (nomark _)) (pw_and1 (pt_cmpR op_ne (pe_ix ix_tup (pv 2) pe_int (fun _ _ => rfl)) pe_int (nomark _))))) (pw_or1 (PW.pt (pw_and (pt_cmpR op_gt (pv 1) pe_int (nomark _)) (pw_and1 (pt_not (pt_val (pe_fn G_fits_behind (hr.mono (by decide)) (pa_cons (pe_ix ix_tup (pv 0) (pe_op op_sub (pv 1) pe_int) (fun _ _ => rfl)) (pa_cons (pv 2) pa_nil))))))))))) (pss_one ps_never) pss_nil))))))), ?_⟩
  walk_at "rd"
  refine ⟨_, _, _, _, true, rfl, .ty _, .base (.tup h1), kit_ty (by decide +kernel), ?_⟩
  walk_at "rd"
  refine ⟨a, _, rfl, .inr (SqT.of h1), ?_⟩
  have lx := paired_len pr
  have l1 := ok.pos
  have l2 := ok.wide
  rw [lx]
  walk_at "rd"
  (refine iteT ?_ ?_; (· exact decide_eq_true (by omega)))
  walk_at "rd"
  (refine iteF ?_ ?_; (· rw [decide_eq_true (by omega)]; rfl))
  walk_at "rd"
  refine ⟨a, _, rfl, h1, ?_⟩
  refine for_it walk_enumT (fun i σ H' => Same H H' ∧ ∃ y z, σ = [some (.ref a), y, z]) ⟨Same.refl _, _, _, rfl⟩ (fun i σ H' _ p => p.1 _ _ h1) ?_ (fun σ H' p => ?_)
  · rintro i x σ H2 H3 hi ⟨g1, x0, y0, rfl⟩ ⟨p, u, v, rfl, hp, rfl, hu, hv⟩
    obtain rfl := Option.some.inj hu
    obtain ⟨cc, hc, c, rfl, hcc⟩ := paired_get pr hv
    have hi2 : i < g.length := by omega
    rw [getD_at hi2] at hc
    obtain rfl := Option.some.inj hc
    have g2 := g1.trans (same_new hp (HO.tup [V.int (i : Nat), V.ref c]))
    obtain ⟨c1, c2⟩ := ok.col i hi2
    refine ⟨p, _, rfl, SqT.of upd_same, rfl, ?_⟩
    walk_at "rd"
    refine ⟨c, _, _, by simp, g2 _ _ hcc, c1, c2, ?_⟩
    walk_at "rd"
    rcases Nat.eq_zero_or_pos i with hz | hz
    · subst hz
      (refine iteT ?_ ?_; (· exact veqT rfl))
      walk_at "rd"
      refine ⟨c, _, _, _, rfl, rfl, SqT.of (g2 _ _ hcc), rfl, ?_⟩
      walk_at "rd"
      (refine iteF ?_ ?_; (· exact vneF (by show ((lo g 0 : Nat) : Int) = 0; rw [ok.first]; rfl)))
      walk_at "rd"
      (refine iteF ?_ ?_; (· exact decide_eq_false (by omega)))
      exact ⟨g2, _, _, rfl⟩
    · (refine iteF ?_ ?_; (· exact veqF (by omega)))
      walk_at "rd"
      (refine iteT ?_ ?_; (· exact decide_eq_true (by omega)))
      walk_at "rd"
      obtain ⟨v9, hv9, c9, rfl, hc9⟩ := paired_at pr (getD_at (g := g) (i := i - 1) (by omega))
      refine ⟨a, _, _, _, rfl, rfl, SqT.of (g2 _ _ h1), (at_of (j := i - 1) (by omega) hv9), ?_⟩
      walk_at "rd"
      obtain ⟨d1, d2, d3⟩ := ok.step (i - 1) (by omega)
      rw [show i - 1 + 1 = i by omega] at d1 d2 d3
      refine ⟨c9, c, _, _, _, _, by simp, g2 _ _ hc9, g2 _ _ hcc, d1, d2, d3, ?_⟩
      walk_at "rd"
      exact ⟨g2, _, _, rfl⟩
  · walk_at "rd"
    exact q _ p.1
end
end Kl

/-! ## KlEq -/
namespace Kl
open PySem PySem.Spec PyProof.Rows L2
/-! ### regions as data -/
def colD (c : Nat × Nat) : PyData := .tuple [.int (c.1 : Nat), .int (c.2 : Nat)]
theorem cols_lay : ∀ g : List (Nat × Nat), PyData.canLayAll0 (g.map colD) = true
  | [] => by simp [PyData.canLayAll0]
  | c :: g => by
    have h := cols_lay g
    simp [PyData.canLayAll0, colD, PyData.canLay0, h]
theorem cols_depth : ∀ g : List (Nat × Nat), PyData.depthAll (g.map colD) ≤ 1
  | [] => by simp [PyData.depthAll]
  | c :: g => by
    have h := cols_depth g
    have e : (colD c).depth = 1 := by simp [colD, PyData.depth, PyData.depthAll]
    simp only [List.map_cons, PyData.depthAll]
    omega
theorem lst_shaped (g : List (Nat × Nat)) : SeqAt.shaped (.list (g.map colD)) = true := by
  have h1 := cols_depth g
  show (PyData.canLay0 (.list (g.map colD)) && decide (PyData.depth (.list (g.map colD)) ≤ 64)) = true
  rw [Bool.and_eq_true]
  refine ⟨by simp only [PyData.canLay0]; exact cols_lay g, decide_eq_true ?_⟩
  simp only [PyData.depth]
  omega
theorem tup_shaped (g : List (Nat × Nat)) : SeqAt.shaped (.tuple (g.map colD)) = true := by
  have h1 := cols_depth g
  show (PyData.canLay0 (.tuple (g.map colD)) && decide (PyData.depth (.tuple (g.map colD)) ≤ 64)) = true
  rw [Bool.and_eq_true]
  refine ⟨by simp only [PyData.canLay0]; exact cols_lay g, decide_eq_true ?_⟩
  simp only [PyData.depth]
  omega
theorem col_shaped (c : Nat × Nat) : SeqAt.shaped (colD c) = true := by
  show ((colD c).canLay0 && decide ((colD c).depth ≤ 64)) = true
  simp [colD, PyData.canLay0, PyData.canLayAll0, PyData.depth, PyData.depthAll]
theorem col_eqv (c d : Nat × Nat) : PyData.eqv (colD c) (colD d) = decide (c = d) := by
  obtain ⟨a, b⟩ := c
  obtain ⟨a2, b2⟩ := d
  have e : PyData.eqv (colD (a, b)) (colD (a2, b2)) = (((a : Int) == (a2 : Int)) && (((b : Int) == (b2 : Int)) && true)) := by simp only [colD, PyData.eqv, PyData.eqvAll]
  rw [e, Bool.and_true, Bool.eq_iff_iff]
  simp only [Bool.and_eq_true, beq_iff_eq, decide_eq_true_eq, Prod.mk.injEq]
  omega
theorem cols_eqv : ∀ g h : List (Nat × Nat), PyData.eqvAll (g.map colD) (h.map colD) = decide (g = h)
  | [], [] => by simp [PyData.eqvAll]
  | [], d :: h => by simp [PyData.eqvAll]
  | c :: g, [] => by simp [PyData.eqvAll]
  | c :: g, d :: h => by
    simp only [List.map_cons, PyData.eqvAll, col_eqv, cols_eqv g h]
    rw [Bool.eq_iff_iff]
    simp
theorem lst_eqv (g h : List (Nat × Nat)) : PyData.eqv (.list (g.map colD)) (.list (h.map colD)) = decide (g = h) := by
  simp only [PyData.eqv]
  exact cols_eqv g h
theorem tup_eqv (g h : List (Nat × Nat)) : PyData.eqv (.tuple (g.map colD)) (.tuple (h.map colD)) = decide (g = h) := by
  simp only [PyData.eqv]
  exact cols_eqv g h
section
variable {X : Cx} {K : PySem.W.Frag}
theorem call_len_seqK (h : X.K = K) : CallR X (.builtin "len") (fun xs H Q => ∃ p ys, xs = [.ref p] ∧ (SqL K H p ys ∨ SqT K H p ys) ∧ Q (.int ys.length) H) := by
  subst h
  exact call_len_seq
theorem op_notIn_seqK (h : X.K = K) : OpR X (compareOp .NotIn) (rIn K true) := by
  subst h
  exact op_notIn_seq
theorem ix_tupK (h : X.K = K) : IxR X (rIxT K) := by
  subst h
  exact ix_tup
theorem ix_listK (h : X.K = K) : IxR X (rIxL K) := by
  subst h
  exact ix_list
end
section
variable {K : PySem.W.Frag} {H : Hp}
theorem col_dp {p : Addr} {c : Nat × Nat} (h : H p = some (.tup [.int (c.1 : Nat), .int (c.2 : Nat)])) : Dp K H (.ref p) (colD c) := .tup (SqT.of h) (.cons (.int _) (.cons (.int _) .nil))
theorem cols_dp : ∀ {xs : List V} {g : List (Nat × Nat)}, Paired (fun (v : V) (c : Nat × Nat) => ∃ p, v = .ref p ∧ H p = some (.tup [.int (c.1 : Nat), .int (c.2 : Nat)])) xs g → DpAll K H xs (g.map colD)
  | _, _, .nil => .nil
  | _, _, .cons r t => by
    obtain ⟨p, rfl, hp⟩ := r
    exact .cons (col_dp hp) (cols_dp t)
end
end Kl

/-! ## D8 -/
namespace Kl
open PySem PySem.Spec PyProof.Rows L2
local macro_rules | `(tactic| walk_at "rd") => `(tactic| repeat (first | refine ⟨_, rfl, ?_⟩ | refine ⟨_, _, rfl, rfl, ?_⟩ | refine ⟨_, _, rfl, ?_⟩ | refine ⟨rfl, ?_⟩ | refine ⟨Or.inl ⟨by decide, by decide⟩, ?_⟩ | refine ⟨Or.inr ⟨by decide, by decide⟩, ?_⟩ | refine ⟨⟨by decide, by decide⟩, ?_⟩ | refine ⟨by decide, ?_⟩ | refine ⟨show (0 : Int) < _ from by decide, ?_⟩))
theorem isN_none : decide (oV none = V.non) = true := decide_eq_true rfl
theorem isN_some (v : Nat) : decide (oV (some v) = V.non) = false := decide_eq_false fun e => by cases e
theorem notN_none : (!decide (oV none = V.non)) = false := by rw [isN_none]; rfl
theorem notN_some (v : Nat) : (!decide (oV (some v) = V.non)) = true := by rw [isN_some]; rfl
theorem row_at {row : List (Option Nat)} {i : Nat} {o : Option Nat} (h : row[i]? = some o) : (row.map oV)[i]? = some (oV o) := by rw [List.getElem?_map, h]; rfl
theorem get_ex {α : Type} {xs : List α} {i : Nat} (h : i < xs.length) : ∃ o, xs[i]? = some o := ⟨xs[i], List.getElem?_eq_getElem h⟩
/-- how high the last column is -/
def lastHi (pre : Reg) : Nat := (pre.getLast?.map (·.2)).getD 0
theorem lastHi_snoc (pre : Reg) (c : Nat × Nat) : lastHi (pre ++ [c]) = c.2 := by simp [lastHi]
theorem ite_te {c : Bool} {ta tb : TE} {σ : L2.St} {H H1 : Hp} {Q : VK} (v : V) (h1 : c = true → ∀ Q : VK, Q v H1 → ta σ H Q) (h2 : c = false → ∀ Q : VK, Q v H1 → tb σ H Q) (h : Q v H1) :
    if c = true then ta σ H Q else tb σ H Q := by
  cases c with
  | true => exact h1 rfl Q h
  | false => exact h2 rfl Q h
theorem last_get {pre : Reg} (hn : pre ≠ []) : ∃ c, pre[pre.length - 1]? = some c ∧ c.2 = lastHi pre ∧ 0 < pre.length := by
  have hl : 0 < pre.length := List.length_pos_iff.mpr hn
  refine ⟨pre[pre.length - 1], List.getElem?_eq_getElem (by omega), ?_, hl⟩
  unfold lastHi
  rw [List.getLast?_eq_getElem?, List.getElem?_eq_getElem (by omega)]
  rfl
theorem tt_val {tc : TT} {σ : L2.St} {H H1 : Hp} {Q : Bool → Hp → Prop} (b : Bool) (h : ∀ Q : Bool → Hp → Prop, Q b H1 → tc σ H Q) (h2 : Q b H1) : tc σ H Q := h Q h2
theorem te_val {te : TE} {σ : L2.St} {H H1 : Hp} {Q : VK} (v : V) (h : ∀ Q : VK, Q v H1 → te σ H Q) (h2 : Q v H1) : te σ H Q := h Q h2
/-- whether the row goes on at h -/
def goes (rights : Row) (x h : Nat) : Bool := match rights[h]? with
  | some (some v) => decide (v ≤ x)
  | _ => false
theorem goes_adv {rights : Row} {x h : Nat} (e : goes rights x h = true) : h < rights.length ∧ adv rights x (h + 1) = adv rights x h := by
  unfold goes at e
  split at e
  · rename_i v hv
    exact ⟨(List.getElem?_eq_some_iff.mp hv).1, adv_go hv (of_decide_eq_true e)⟩
  · cases e
theorem goes_stop {rights : Row} {x h : Nat} (e : goes rights x h = false) : adv rights x h = h := by
  refine adv_stop fun v hv => ?_
  unfold goes at e
  rw [hv] at e
  have := of_decide_eq_false e
  omega
section
variable {P : Program} {w : World} {K : PySem.W.Frag} {mg : Str → Option Value} {base : Heap} {f : Addr} {fd : FuncData}
abbrev n_region_from : List Str := ["lefts", "rights", "found", "low", "x", "high"]
theorem sc_region_from : FnScope n_region_from ["lefts", "rights"] (defScope s_region_from) := ⟨rfl, rfl, rfl, by decide +kernel, rfl, by decide +kernel, by decide +kernel⟩
def spRegionFrom : Sp := fun vs H Q _ => ∃ (a b : Addr) (lefts rights : Row), vs = [.ref a, .ref b] ∧ RowH H a lefts ∧ RowH H b rights ∧ lefts.length < 60 ∧ rights.length < 60 ∧
  ∀ p H', Same H H' → RegH H' p (regionFrom lefts rights) → Q (.ref p) H'
theorem ok_region_from (T : Bt mg) (F : FnP K "region_from" s_region_from f fd) : FnOk P w K mg base CX0 1 f fd ["lefts", "rights"] spRegionFrom := by
  refine F.ok sc_region_from (fun vs H Q E h => ?_) (fun cdv A outer s H vs Q E hr h => ?_)
  · obtain ⟨a, b, lefts, rights, rfl, ha, hb, l1, l2, q⟩ := h
    rfl
  obtain ⟨a, b, lefts, rights, rfl, ha, hb, l1, l2, q⟩ := h
  refine ⟨_, (PSs.nox (pss_cons (ps_par (i := 2) (j := 3) (by rfl) sc_region_from.nd rfl rfl (by decide) rfl rfl (pa_cons (pe_lst pa_nil) (pa_cons pe_int pa_nil)) (by rfl))
  (pss_cons (ps_for PassesOwn.never rfl (pi_range1 (by rfl) T.range (pa_cons (pe_op op_add (pe_callB call_len_seq (by rfl) T.len (by decide +kernel) (pa_cons (pv 0) pa_nil)) pe_int) pa_nil)) (pg_name (i := 4) sc_region_from.nd rfl (Or.inl rfl)) (pss_cons (ps_set (i := 5) sc_region_from.nd rfl (Or.inl rfl) (pe_ifExp (pt_cmpR (op_neD hr.units) (pv 2) (pe_lst pa_nil) (nomark _)) (pe_ix ix_tup (pe_ix ix_list (pv 2) (pe_un un_neg pe_int) (fun _ _ => rfl)) pe_int (fun _ _ => rfl)) pe_int))
  (pss_cons (ps_while PassesOwn.never (PW.pt (pw_and (pt_cmpR op_lt (pv 5) (pe_callB call_len_seq (by rfl) T.len (by decide +kernel) (pa_cons (pv 1) pa_nil)) (nomark _)) (pw_and (pt_cmpR op_notN (pe_ix ix_tup (pv 1) (pv 5) (fun _ _ => rfl)) pe_non (nomark _)) (pw_and1 (pt_cmpR op_le (pe_ix ix_tup (pv 1) (pv 5) (fun _ _ => rfl)) (pv 4) (nomark _)))))) (pss_one (ps_aug (i := 5) sc_region_from.nd rfl (Or.inl rfl) pe_int ip_add)))
  (pss_cons (ps_expr (pe_bm PySem.F.plainAttrs_list PySem.F.slot_list_append PySem.F.type_list_append mt_append (pv 2) (pa_cons (pe_tup (pa_cons (pv 3) (pa_cons (pv 5) pa_nil))) pa_nil)))
  (pss_one (ps_if (pt_cmpR op_lt (pv 4) (pe_callB call_len_seq (by rfl) T.len (by decide +kernel) (pa_cons (pv 0) pa_nil)) (nomark _)) (pss_cons (ps_if (PW.pt (pw_or (pt_cmpR op_isN (pe_ix ix_tup (pv 0) (pv 4) (fun _ _ => rfl)) pe_non (nomark _)) (pw_or1 (pt_cmpR op_gt (pe_ix ix_tup (pv 0) (pv 4) (fun _ _ => rfl)) (pv 5) (nomark _))))) (pss_one (ps_ret (pe_callTy call_tuple_of (by rfl) T.tuple (by decide +kernel) (pa_cons (pv 2) pa_nil)))) pss_nil)
  (pss_one (ps_set (i := 3) sc_region_from.nd rfl (Or.inl rfl) (pe_callB (call_max2 rfl) (by rfl) T.max (by decide +kernel) (pa_cons (pv 3) (pa_cons (pe_ix ix_tup (pv 0) (pv 4) (fun _ _ => rfl)) pa_nil)))))) pss_nil))))))
  (pss_one (ps_ret (pe_callTy call_tuple_of (by rfl) T.tuple (by decide +kernel) (pa_cons (pv 2) pa_nil))))))), ?_⟩
  walk_at "rd"
  intro D hD
  walk_at "rd"
  refine ⟨a, _, rfl, .inr (SqT.of (same_new hD _ _ _ ha)), ?_⟩
  rw [List.length_map]
  walk_at "rd"
  refine ⟨by omega, by omega, ?_⟩
  rw [show ((lefts.length : Int) + 1).toNat = lefts.length + 1 by omega]
  refine for_it walk_range (fun x σ H' => Same H H' ∧ ∃ (pre : Reg) (us : List V) (low : Nat) (y z : Option V), H' D = some (.lst us) ∧ Paired (ColH H') us pre ∧ pre.length = x ∧ lastHi pre ≤ rights.length ∧
      (x ≤ lefts.length → pre ++ rfrom rights (lefts.drop x) x (lastHi pre) low = regionFrom lefts rights) ∧ (x = lefts.length + 1 → pre = regionFrom lefts rights) ∧
      σ = [some (.ref a), some (.ref b), some (.ref D), some (.int low), y, z])
    ⟨same_new hD _, [], [], 0, none, none, upd_same, .nil, rfl, Nat.zero_le _, fun _ => rfl, fun e => by omega, rfl⟩ (fun _ _ _ _ _ => trivial) ?_ (fun σ H2 p2 => ?_)
  · rintro x i0 σ H2 H3 hx ⟨g2, pre, us, low, y, z, hDu, pr, hpl, hhi, inv, _, rfl⟩ ⟨rfl, rfl⟩
    have inv := inv (by omega)
    have lu := paired_len pr
    walk_at "rd"
    intro e0 he0
    walk_at "rd"
    refine ⟨_, _, .lst (SqL.of ((same_new he0 _) _ _ hDu)) (cols_dp (paired_mono pr fun _ _ => ColH.mono (Same.t (same_new he0 _)))), .lst (SqL.of upd_same) .nil, lst_shaped pre, lst_shaped [], ?_⟩
    rw [show PyData.eqv (.list (pre.map colD)) (.list []) = decide (pre = []) from lst_eqv pre []]
    have gn := same_new he0 (HO.lst [])
    generalize hHc : upd H3 e0 (HO.lst []) = Hc at gn ⊢
    have g3 := g2.trans gn
    have hDu3 := gn _ _ hDu
    have pr3 := paired_mono pr fun _ _ => ColH.mono (Same.t gn)
    refine ⟨_, rfl, ?_⟩
    refine ite_te (H1 := Hc) (V.int (lastHi pre : Nat)) (fun c Q q => ?_) (fun c Q q => ?_) ?_
    · have hn : pre ≠ [] := by simpa using c
      obtain ⟨c9, hc9, e9, hp9⟩ := last_get hn
      obtain ⟨v9, hv9, r9, rfl, hr9⟩ := paired_at pr3 hc9
      walk_at "rd"
      refine ⟨D, _, _, _, rfl, rfl, SqL.of hDu3, at_last (j := pre.length - 1) (by omega) hv9, ?_⟩
      walk_at "rd"
      refine ⟨r9, _, _, _, rfl, rfl, SqT.of hr9, rfl, ?_⟩
      rw [e9]
      exact q
    · have hn : pre = [] := by simpa using c
      rw [hn] at q
      exact q
    walk_at "rd"
    have hb3 := RowH.mono hb (Same.t g3)
    have ha3 := RowH.mono ha (Same.t g3)
    refine ⟨fun m σ H' => H' = Hc ∧ ∃ h : Nat, m = rights.length - h ∧ h ≤ rights.length ∧ adv rights x h = adv rights x (lastHi pre) ∧ σ = [some (.ref a), some (.ref b), some (.ref D), some (.int low), some (.int x), some (.int h)],
      ⟨_, rfl, lastHi pre, rfl, hhi, rfl, by simp⟩, ?_⟩
    rintro m σ H4 ⟨rfl, h, rfl, hh, hadv, rfl⟩
    refine tt_val (H1 := H4) (goes rights x h) (fun Q q => ?_) ?_
    · walk_at "rd"
      refine ⟨b, _, rfl, .inr (SqT.of hb3), ?_⟩
      rw [List.length_map]
      walk_at "rd"
      by_cases h1 : h < rights.length
      · (refine iteT ?_ ?_; (· exact decide_eq_true (by omega)))
        walk_at "rd"
        obtain ⟨o, ho⟩ := get_ex h1
        refine ⟨b, _, _, _, rfl, rfl, SqT.of hb3, at_of (j := h) rfl (row_at ho), ?_⟩
        unfold goes at q
        rw [ho] at q
        cases o with
        | none =>
          walk_at "rd"
          (refine iteF ?_ ?_; (· exact notN_none))
          exact q
        | some v =>
          walk_at "rd"
          refine ⟨b, _, _, _, rfl, rfl, SqT.of hb3, at_of (j := h) rfl (row_at ho), ?_⟩
          walk_at "rd"
          rw [show decide (((v : Nat) : Int) ≤ (x : Int)) = decide (v ≤ x) by rw [Bool.eq_iff_iff]; simp]
          exact q
      · (refine iteF ?_ ?_; (· exact decide_eq_false (by omega)))
        rw [show goes rights x h = false by unfold goes; rw [List.getElem?_eq_none (by omega)]] at q
        exact q
    by_cases hgo : goes rights x h = true
    · rw [if_pos hgo]
      obtain ⟨g5, g6⟩ := goes_adv hgo
      refine ⟨fun σ H' => H' = H4 ∧ ∃ h' : Nat, h' = h + 1 ∧ σ = [some (.ref a), some (.ref b), some (.ref D), some (.int low), some (.int x), some (.int h')], ?_, ?_⟩
      · rintro σ' H' ⟨rfl, h', rfl, rfl⟩
        exact ⟨_, by omega, rfl, h + 1, rfl, g5, by rw [g6]; exact hadv, rfl⟩
      · walk_at "rd"
        exact rfl
    · rw [if_neg hgo]
      have hs := goes_stop (Bool.eq_false_iff.mpr hgo)
      rw [hs] at hadv
      walk_at "rd"
      refine ⟨.inl ⟨rfl, _, SqL.of (hDu3)⟩, ?_⟩
      walk_at "rd"
      refine ⟨by simp [sizeLine], fun cA hcA => ?_⟩
      walk_at "rd"
      have gt := same_new hcA (HO.tup [V.int (low : Nat), V.int (h : Nat)])
      have hD5 := gt _ _ hDu3
      refine ⟨D, us, _, rfl, rfl, hD5, sz100 (by omega), ?_⟩
      have ts6 : TSame (upd H4 cA (HO.tup [V.int (low : Nat), V.int (h : Nat)])) (upd (upd H4 cA (HO.tup [V.int (low : Nat), V.int (h : Nat)])) D (HO.lst (us ++ [V.ref cA]))) := TSame.mut (TSame.refl _) (notTup_lst hD5)
      have g6 : Same H (upd (upd H4 cA (HO.tup [V.int (low : Nat), V.int (h : Nat)])) D (HO.lst (us ++ [V.ref cA]))) := Same.mut (g3.trans gt) hD
      have pr6 : Paired (ColH (upd (upd H4 cA (HO.tup [V.int (low : Nat), V.int (h : Nat)])) D (HO.lst (us ++ [V.ref cA])))) (us ++ [V.ref cA]) (pre ++ [(low, h)]) :=
        paired_snoc (paired_mono pr3 fun _ _ => ColH.mono ((Same.t gt).trans ts6)) ⟨cA, rfl, ts6 _ _ upd_same⟩
      have hD6 : (upd (upd H4 cA (HO.tup [V.int (low : Nat), V.int (h : Nat)])) D (HO.lst (us ++ [V.ref cA]))) D = some (.lst (us ++ [V.ref cA])) := upd_same
      generalize (upd (upd H4 cA (HO.tup [V.int (low : Nat), V.int (h : Nat)])) D (HO.lst (us ++ [V.ref cA]))) = H6 at g6 pr6 hD6 ⊢
      have ha6 := RowH.mono ha (Same.t g6)
      walk_at "rd"
      refine ⟨a, _, rfl, .inr (SqT.of ha6), ?_⟩
      rw [List.length_map]
      walk_at "rd"
      by_cases hxl : x < lefts.length
      · (refine iteT ?_ ?_; (· exact decide_eq_true (by omega)))
        walk_at "rd"
        obtain ⟨o, ho⟩ := get_ex hxl
        have hdr : lefts.drop x = o :: lefts.drop (x + 1) := by
          obtain ⟨h1, h2⟩ := List.getElem?_eq_some_iff.mp ho
          rw [List.drop_eq_getElem_cons h1, h2]
        rw [hdr] at inv
        unfold rfrom at inv
        rw [← hadv] at inv
        refine ⟨a, _, _, _, rfl, rfl, SqT.of ha6, at_of (j := x) (by omega) (row_at ho), ?_⟩
        have done : pre ++ [(low, h)] = regionFrom lefts rights → Q (V.ref D) H6 → True := fun _ _ => trivial
        cases o with
        | none =>
          walk_at "rd"
          refine ⟨D, _, rfl, .inl ⟨SqL.of hD6, fun l hl => ?_⟩⟩
          refine q l _ (Same.mut g6 (Same.none g6 hl)) ⟨_, upd_same, ?_⟩
          rw [← inv]
          exact paired_mono pr6 fun _ _ => ColH.mono (Same.t (same_new hl _))
        | some v =>
          walk_at "rd"
          refine ⟨a, _, _, _, rfl, rfl, SqT.of ha6, at_of (j := x) (by omega) (row_at ho), ?_⟩
          walk_at "rd"
          by_cases hv : h < v
          · (refine iteT ?_ ?_; (· exact decide_eq_true (by omega)))
            walk_at "rd"
            refine ⟨D, _, rfl, .inl ⟨SqL.of hD6, fun l hl => ?_⟩⟩
            refine q l _ (Same.mut g6 (Same.none g6 hl)) ⟨_, upd_same, ?_⟩
            simp only [if_pos hv] at inv
            rw [← inv]
            exact paired_mono pr6 fun _ _ => ColH.mono (Same.t (same_new hl _))
          · (refine iteF ?_ ?_; (· exact decide_eq_false (by omega)))
            walk_at "rd"
            refine ⟨a, _, _, _, rfl, rfl, SqT.of ha6, at_of (j := x) (by omega) (row_at ho), ?_⟩
            walk_at "rd"
            simp only [if_neg hv] at inv
            rw [show (if ((v : Nat) : Int) > ((low : Nat) : Int) then ((v : Nat) : Int) else ((low : Nat) : Int)) = ((max low v : Nat) : Int) by split <;> omega]
            refine ⟨g6, pre ++ [(low, h)], us ++ [V.ref cA], max low v, _, _, hD6, pr6, by simp [hpl], by rw [lastHi_snoc]; exact hh, fun _ => ?_, fun e => by omega, rfl⟩
            rw [lastHi_snoc, ← inv, List.append_assoc]
            rfl
      · (refine iteF ?_ ?_; (· exact decide_eq_false (by omega)))
        have hx2 : x = lefts.length := by omega
        have hdr : lefts.drop x = [] := List.drop_eq_nil_of_le (by omega)
        rw [hdr] at inv
        unfold rfrom at inv
        rw [← hadv] at inv
        exact ⟨g6, pre ++ [(low, h)], us ++ [V.ref cA], low, _, _, hD6, pr6, by simp [hpl], by rw [lastHi_snoc]; exact hh, fun e => by omega, fun _ => inv, rfl⟩
  · obtain ⟨g2, pre, us, low, y, z, hDu, pr, hpl, hhi, _, inv, rfl⟩ := p2
    walk_at "rd"
    refine ⟨D, _, rfl, .inl ⟨SqL.of hDu, fun l hl => ?_⟩⟩
    refine q l _ (Same.mut g2 (Same.none g2 hl)) ⟨us, upd_same, ?_⟩
    rw [← inv rfl]
    exact paired_mono pr fun _ _ => ColH.mono (Same.t (same_new hl _))
end
end Kl

/-! ## D9 -/
namespace Kl
open PySem PySem.Spec PyProof.Rows L2
local macro_rules | `(tactic| walk_at "rd") => `(tactic| repeat (first | refine ⟨_, rfl, ?_⟩ | refine ⟨_, _, rfl, rfl, ?_⟩ | refine ⟨_, _, rfl, ?_⟩ | refine ⟨rfl, ?_⟩ | refine ⟨Or.inl ⟨by decide, by decide⟩, ?_⟩ | refine ⟨Or.inr ⟨by decide, by decide⟩, ?_⟩ | refine ⟨⟨by decide, by decide⟩, ?_⟩ | refine ⟨by decide, ?_⟩ | refine ⟨show (0 : Int) < _ from by decide, ?_⟩))
/-- two rows of thresholds -/
structure RowsOk (lefts rights : Row) : Prop where
  l : ∀ v, some v ∈ lefts → v ≤ rights.length
  r : ∀ v, some v ∈ rights → v ≤ lefts.length
  sum : lefts.length + rights.length < 60
theorem RowsOk.ths {things : List Str} {b r : Nat} (h : b + r < 60) : RowsOk (tleft things b r) (tright things b r) :=
  ⟨fun v hv => by rw [tright_len]; exact tleft_le hv, fun v hv => by rw [tleft_len]; exact tright_le hv, by rw [tleft_len, tright_len]; exact h⟩
section
variable {P : Program} {w : World} {K : PySem.W.Frag} {mg : Str → Option Value} {base : Heap} {f : Addr} {fd : FuncData}
abbrev n_region_of : List Str := ["lane", "lefts", "rights"]
theorem sc_region_of : FnScope n_region_of ["lane"] (defScope s_region_of) := ⟨rfl, rfl, rfl, by decide +kernel, rfl, by decide +kernel, by decide +kernel⟩
def spRegionOf : Sp := fun vs H Q _ => ∃ (a : Addr) (b r : Nat) (things : List Str), vs = [.ref a] ∧ LaneH H a b r things ∧ (∀ z ∈ things, SetOk z) ∧
  ∀ p H', Same H H' → RegH H' p (regionFrom (tleft things b r) (tright things b r)) → Q (.ref p) H'
theorem ok_region_of (G_thresholds_of : Has P w K mg base 3 "thresholds_of" ["lane"] spThresholdsOf) (G_region_from : Has P w K mg base 1 "region_from" ["lefts", "rights"] spRegionFrom) (F : FnP K "region_of" s_region_of f fd) : FnOk P w K mg base CX0 4 f fd ["lane"] spRegionOf := by
  refine F.ok sc_region_of (fun vs H Q E h => ?_) (fun cdv A outer s H vs Q E hr h => ?_)
  · obtain ⟨a, b, r, things, rfl, L, sok, q⟩ := h
    rfl
  obtain ⟨a, b, r, things, rfl, L, sok, q⟩ := h
  refine ⟨_, (pss_cons (ps_asg (pe_fn G_thresholds_of (hr.mono (by decide)) (pa_cons (pv 0) pa_nil)) (pg_tup rfl (pgs_cons (pg_name (i := 1) sc_region_of.nd rfl (Or.inl rfl)) (pgs_cons (pg_name (i := 2) sc_region_of.nd rfl (Or.inl rfl)) pgs_nil))))
  (pss_one (ps_ret (pe_fn G_region_from (hr.mono (by decide)) (pa_cons (pv 1) (pa_cons (pv 2) pa_nil)))))), ?_⟩
  walk_at "rd"
  refine ⟨a, b, r, things, rfl, L, sok, fun p l m H1 g1 hp hl hm => ?_⟩
  walk_at "rd"
  refine ⟨p, _, rfl, SqT.of hp, rfl, ?_⟩
  walk_at "rd"
  have := L.most
  exact ⟨l, m, _, _, rfl, hl, hm, by rw [tleft_len]; omega, by rw [tright_len]; omega, fun p2 H2 g2 h2 => q p2 H2 (g1.trans g2) h2⟩
abbrev n_region : List Str := ["lane"]
theorem sc_region : FnScope n_region ["lane"] (defScope s_region) := ⟨rfl, rfl, rfl, by decide +kernel, rfl, by decide +kernel, by decide +kernel⟩
theorem ok_region (G_need_lane : Has P w K mg base 3 "need_lane" ["value"] spNeedLane) (G_region_of : Has P w K mg base 4 "region_of" ["lane"] spRegionOf) (F : FnP K "region" s_region f fd) : FnOk P w K mg base CX0 5 f fd ["lane"] spRegionOf := by
  refine F.ok sc_region (fun vs H Q E h => ?_) (fun cdv A outer s H vs Q E hr h => ?_)
  · obtain ⟨a, b, r, things, rfl, L, sok, q⟩ := h
    rfl
  obtain ⟨a, b, r, things, rfl, L, sok, q⟩ := h
  refine ⟨_, (pss_cons (ps_expr (pe_fn G_need_lane (hr.mono (by decide)) (pa_cons (pv 0) pa_nil)))
  (pss_one (ps_ret (pe_fn G_region_of (hr.mono (by decide)) (pa_cons (pv 0) pa_nil))))), ?_⟩
  walk_at "rd"
  refine ⟨a, b, r, things, rfl, L, sok, fun H1 g1 => ?_⟩
  walk_at "rd"
  exact ⟨a, b, r, things, rfl, L.mono (Same.t g1), sok, fun p2 H2 g2 h2 => q p2 H2 (g1.trans g2) h2⟩
abbrev n_are_rows : List Str := ["lefts", "rights", "own", "other", "one"]
theorem sc_are_rows : FnScope n_are_rows ["lefts", "rights"] (defScope s_are_rows) := ⟨rfl, rfl, rfl, by decide +kernel, rfl, by decide +kernel, by decide +kernel⟩
def spAreRows : Sp := fun vs H Q _ => ∃ (a b : Addr) (lefts rights : Row), vs = [.ref a, .ref b] ∧ RowH H a lefts ∧ RowH H b rights ∧ RowsOk lefts rights ∧ ∀ H', Same H H' → Q (.bl true) H'
theorem ok_are_rows (T : Bt mg) (G_is_in : Has P w K mg base 2 "is_in" ["value", "least", "most"] spIsIn) (F : FnP K "are_rows" s_are_rows f fd) : FnOk P w K mg base CX0 3 f fd ["lefts", "rights"] spAreRows := by
  refine F.ok sc_are_rows (fun vs H Q E h => ?_) (fun cdv A outer s H vs Q E hr h => ?_)
  · obtain ⟨a, b, lefts, rights, rfl, ha, hb, ok, q⟩ := h
    rfl
  obtain ⟨a, b, lefts, rights, rfl, ha, hb, ok, q⟩ := h
  obtain ⟨tM, hMR⟩ := T.mr
  refine ⟨_, (PSs.nox (pss_cons (ps_for PassesOwn.never rfl (pi_tup (pe_tup (pa_cons (pe_tup (pa_cons (pv 0) (pa_cons (pv 1) pa_nil))) (pa_cons (pe_tup (pa_cons (pv 1) (pa_cons (pv 0) pa_nil))) pa_nil)))) (pg_tup rfl (pgs_cons (pg_name (i := 2) sc_are_rows.nd rfl (Or.inl rfl)) (pgs_cons (pg_name (i := 3) sc_are_rows.nd rfl (Or.inr rfl)) pgs_nil))) (pss_cons (ps_if (PW.pt (pw_or (pt_not (pt_val (pe_callB call_isi (by rfl) T.isi (by decide +kernel) (pa_cons (pv 2) (pa_cons (pe_bltn (v := .ty "tuple") (u := .type "tuple") (by rfl) T.tuple (by decide +kernel) rfl) pa_nil))))) (pw_or (pt_cmpR op_ge (pe_callB call_len_seq (by rfl) T.len (by decide +kernel) (pa_cons (pv 2) pa_nil)) (pe_glob (v := .int 60) (by rfl) hMR ⟨_, rfl⟩) (nomark _)) (pw_or1 (pt_not (pt_val (pe_callB call_isi (by rfl) T.isi (by decide +kernel) (pa_cons (pv 3) (pa_cons (pe_bltn (v := .ty "tuple") (u := .type "tuple") (by rfl) T.tuple (by decide +kernel) rfl) pa_nil))))))))) (pss_one (ps_ret pe_bl)) pss_nil)
  (pss_one (ps_if (pt_not (pt_val (pe_callB (cr_all rfl) (by rfl) T.all (by decide +kernel) (pa_cons (pe_lc (own := [("one", 4)]) (g := (gName 4)) (tt := tYes) rfl sc_are_rows.nd (pi_tup (pv 2)) (blkOk_by (own := [("one", 4)]) (N := n_are_rows) (sc := defScope s_are_rows) (by decide +kernel)) (fun _ _ _ _ _ => (pg_name (i := 4) sc_are_rows.nd rfl (Or.inl rfl))) (fun _ _ _ _ _ => pts_nil) (fun _ _ _ _ _ => (pe_or (pe_cmpR op_isN (pv 4) pe_non (nomark _)) (pe_one (pe_fn G_is_in (hr.mono (by decide)) (pa_cons (pv 4) (pa_cons pe_int (pa_cons (pe_callB (call_len_seqK (K := K) rfl) (by rfl) T.len (by decide +kernel) (pa_cons (pv 3) pa_nil)) pa_nil)))))))) pa_nil)))) (pss_one (ps_ret pe_bl)) pss_nil))))
  (pss_one (ps_ret (pe_cmpR op_lt (pe_op op_add (pe_callB call_len_seq (by rfl) T.len (by decide +kernel) (pa_cons (pv 0) pa_nil)) (pe_callB call_len_seq (by rfl) T.len (by decide +kernel) (pa_cons (pv 1) pa_nil))) (pe_glob (v := .int 60) (by rfl) hMR ⟨_, rfl⟩) (nomark _)))))), ?_⟩
  walk_at "rd"
  refine ⟨by simp [sizeLine], fun p1 hp1 => ?_⟩
  walk_at "rd"
  refine ⟨by simp [sizeLine], fun p2 hp2 => ?_⟩
  walk_at "rd"
  refine ⟨by simp [sizeLine], fun p3 hp3 => ?_⟩
  have n12 := ne_of_none (upd_same (H := H) (a := p1) (o := HO.tup [V.ref a, V.ref b])) hp2
  have s1 := same_new hp1 (HO.tup [V.ref a, V.ref b])
  have s2 := same_new hp2 (HO.tup [V.ref b, V.ref a])
  have s3 := same_new hp3 (HO.tup [V.ref p1, V.ref p2])
  have g3 := s1.trans (s2.trans s3)
  have e3 : (upd (upd (upd H p1 (HO.tup [V.ref a, V.ref b])) p2 (HO.tup [V.ref b, V.ref a])) p3 (HO.tup [V.ref p1, V.ref p2])) p3 = some (.tup [.ref p1, .ref p2]) := upd_same
  have e1 := s3 _ _ (s2 _ _ (upd_same (H := H) (a := p1) (o := HO.tup [V.ref a, V.ref b])))
  have e2 := s3 _ _ (upd_same (H := upd H p1 (HO.tup [V.ref a, V.ref b])) (a := p2) (o := HO.tup [V.ref b, V.ref a]))
  generalize upd (upd (upd H p1 (HO.tup [V.ref a, V.ref b])) p2 (HO.tup [V.ref b, V.ref a])) p3 (HO.tup [V.ref p1, V.ref p2]) = H3 at g3 e1 e2 e3 ⊢
  refine ⟨p3, rfl, ⟨_, SqT.of e3⟩, ?_⟩
  have hl1 := ok.sum
  refine for_it (n := 2) (walk_tup (xs := [V.ref p1, V.ref p2])) (fun i σ H' => Same H3 H' ∧ ∃ x y z, σ = [some (.ref a), some (.ref b), x, y, z]) ⟨Same.refl _, _, _, _, rfl⟩ (fun i σ H' _ p => SqT.of (p.1 _ _ e3)) ?_ (fun σ H' p => ?_)
  · rintro i x σ H4 H5 hi ⟨g4, x0, y0, z0, rfl⟩ ⟨rfl, hx⟩
    have g34 := g3.trans g4
    obtain ⟨pp, u, v, ru, rv, rfl, hpp, hu, hv, hru, hlu, hlv⟩ : ∃ pp u v ru rv, x = V.ref pp ∧ H5 pp = some (.tup [.ref u, .ref v]) ∧ RowH H5 u ru ∧ RowH H5 v rv ∧ (∀ t, some t ∈ ru → t ≤ rv.length) ∧ ru.length < 60 ∧ rv.length < 60 := by
      match i, hi, hx with
      | 0, _, hx =>
        obtain rfl := Option.some.inj hx
        exact ⟨p1, a, b, lefts, rights, rfl, g4 _ _ e1, RowH.mono ha (Same.t g34), RowH.mono hb (Same.t g34), ok.l, by omega, by omega⟩
      | 1, _, hx =>
        obtain rfl := Option.some.inj hx
        exact ⟨p2, b, a, rights, lefts, rfl, g4 _ _ e2, RowH.mono hb (Same.t g34), RowH.mono ha (Same.t g34), ok.r, by omega, by omega⟩
    refine ⟨pp, _, rfl, SqT.of hpp, rfl, ?_⟩
    walk_at "rd"
    refine ⟨_, _, _, _, true, rfl, .ty _, .base (.tup hu), kit_ty (by decide +kernel), ?_⟩
    walk_at "rd"
    refine ⟨u, _, rfl, .inr (SqT.of hu), ?_⟩
    rw [List.length_map]
    walk_at "rd"
    (refine iteF ?_ ?_; (· exact decide_eq_false (by omega)))
    walk_at "rd"
    refine ⟨_, _, _, _, true, rfl, .ty _, .base (.tup hv), kit_ty (by decide +kernel), ?_⟩
    walk_at "rd"
    refine ⟨⟨_, SqT.of hu⟩, ?_⟩
    intro D hD
    refine lc_val walk_tup (fun i => some (V.bl true)) hD (sz100 (by rw [List.length_map]; omega)) (fun H6 g6 => SqT.of (g6 _ _ hu)) ?_ ?_
    · rintro j y H6 H7 R R0 hj g6 ⟨rfl, hy⟩ k k0
      refine ⟨rfl, ?_⟩
      walk_at "rd"
      obtain ⟨o, ho, rfl⟩ : ∃ o, ru[j]? = some o ∧ y = oV o := by
        rw [List.getElem?_map] at hy
        cases e : ru[j]? with
        | none => rw [e] at hy; cases hy
        | some o => rw [e] at hy; exact ⟨o, rfl, (Option.some.inj hy).symm⟩
      cases o with
      | none =>
        walk_at "rd"
        exact k _ _ rfl (Same.refl _)
      | some t =>
        walk_at "rd"
        refine ⟨v, _, rfl, .inr (SqT.of (g6 _ _ hv)), ?_⟩
        rw [List.length_map]
        walk_at "rd"
        refine ⟨_, _, _, rfl, ?_⟩
        have := hru t (List.mem_of_getElem? ho)
        rw [boolAnd (by omega) (by omega)]
        exact k _ _ rfl (Same.refl _)
    · intro H6 g6 hl6
      rw [all_true] at hl6
      refine ⟨D, _, rfl, SqL.of hl6, ?_⟩
      rw [replicate_all]
      walk_at "rd"
      exact ⟨g4.trans g6, _, _, _, rfl⟩
  · obtain ⟨g4, x0, y0, z0, rfl⟩ := p
    have g34 := g3.trans g4
    walk_at "rd"
    refine ⟨a, _, rfl, .inr (SqT.of (RowH.mono ha (Same.t g34))), ?_⟩
    rw [List.length_map]
    walk_at "rd"
    refine ⟨b, _, rfl, .inr (SqT.of (RowH.mono hb (Same.t g34))), ?_⟩
    rw [List.length_map]
    walk_at "rd"
    have e : decide (((lefts.length : Int) + (rights.length : Int)) < (60 : Int)) = true := decide_eq_true (by omega)
    show Q (V.bl (decide (((lefts.length : Int) + (rights.length : Int)) < (60 : Int)))) H'
    rw [e]
    exact q _ g34
abbrev n_need_rows : List Str := ["lefts", "rights"]
theorem sc_need_rows : FnScope n_need_rows ["lefts", "rights"] (defScope s_need_rows) := ⟨rfl, rfl, rfl, by decide +kernel, rfl, by decide +kernel, by decide +kernel⟩
def spNeedRows : Sp := fun vs H Q _ => ∃ (a b : Addr) (lefts rights : Row), vs = [.ref a, .ref b] ∧ RowH H a lefts ∧ RowH H b rights ∧ RowsOk lefts rights ∧ ∀ H', Same H H' → Q .non H'
theorem ok_need_rows (G_are_rows : Has P w K mg base 3 "are_rows" ["lefts", "rights"] spAreRows) (F : FnP K "need_rows" s_need_rows f fd) : FnOk P w K mg base CX0 4 f fd ["lefts", "rights"] spNeedRows := by
  refine F.ok sc_need_rows (fun vs H Q E h => ?_) (fun cdv A outer s H vs Q E hr h => ?_)
  · obtain ⟨a, b, lefts, rights, rfl, ha, hb, ok, q⟩ := h
    rfl
  obtain ⟨a, b, lefts, rights, rfl, ha, hb, ok, q⟩ := h
  refine ⟨_, (pss_one (ps_if (pt_not (pt_val (pe_fn G_are_rows (hr.mono (by decide)) (pa_cons (pv 0) (pa_cons (pv 1) pa_nil))))) (pss_one ps_never) pss_nil)), ?_⟩
  walk_at "rd"
  refine ⟨a, b, lefts, rights, rfl, ha, hb, ok, fun H1 g1 => ?_⟩
  walk_at "rd"
  exact q _ g1
abbrev n_region_by : List Str := ["lefts", "rights"]
theorem sc_region_by : FnScope n_region_by ["lefts", "rights"] (defScope s_region_by) := ⟨rfl, rfl, rfl, by decide +kernel, rfl, by decide +kernel, by decide +kernel⟩
def spRegionBy : Sp := fun vs H Q _ => ∃ (a b : Addr) (lefts rights : Row), vs = [.ref a, .ref b] ∧ RowH H a lefts ∧ RowH H b rights ∧ RowsOk lefts rights ∧ ∀ p H', Same H H' → RegH H' p (regionFrom lefts rights) → Q (.ref p) H'
theorem ok_region_by (G_need_rows : Has P w K mg base 4 "need_rows" ["lefts", "rights"] spNeedRows) (G_region_from : Has P w K mg base 1 "region_from" ["lefts", "rights"] spRegionFrom) (F : FnP K "region_by" s_region_by f fd) : FnOk P w K mg base CX0 5 f fd ["lefts", "rights"] spRegionBy := by
  refine F.ok sc_region_by (fun vs H Q E h => ?_) (fun cdv A outer s H vs Q E hr h => ?_)
  · obtain ⟨a, b, lefts, rights, rfl, ha, hb, ok, q⟩ := h
    rfl
  obtain ⟨a, b, lefts, rights, rfl, ha, hb, ok, q⟩ := h
  refine ⟨_, (pss_cons (ps_expr (pe_fn G_need_rows (hr.mono (by decide)) (pa_cons (pv 0) (pa_cons (pv 1) pa_nil))))
  (pss_one (ps_ret (pe_fn G_region_from (hr.mono (by decide)) (pa_cons (pv 0) (pa_cons (pv 1) pa_nil)))))), ?_⟩
  walk_at "rd"
  refine ⟨a, b, lefts, rights, rfl, ha, hb, ok, fun H1 g1 => ?_⟩
  walk_at "rd"
  have := ok.sum
  exact ⟨a, b, lefts, rights, rfl, RowH.mono ha (Same.t g1), RowH.mono hb (Same.t g1), by omega, by omega, fun p2 H2 g2 h2 => q p2 H2 (g1.trans g2) h2⟩
end
end Kl

/-! ## D10 -/
namespace Kl
open PySem PySem.Spec PyProof.Rows L2
local macro_rules | `(tactic| walk_at "rd") => `(tactic| repeat (first | refine ⟨_, rfl, ?_⟩ | refine ⟨_, _, rfl, rfl, ?_⟩ | refine ⟨_, _, rfl, ?_⟩ | refine ⟨rfl, ?_⟩ | refine ⟨Or.inl ⟨by decide, by decide⟩, ?_⟩ | refine ⟨Or.inr ⟨by decide, by decide⟩, ?_⟩ | refine ⟨⟨by decide, by decide⟩, ?_⟩ | refine ⟨by decide, ?_⟩ | refine ⟨show (0 : Int) < _ from by decide, ?_⟩))
theorem cutV_to {xs : List V} {x : Nat} (h : x ≤ xs.length) : cutV xs none (some (x : Nat)) = xs.take x := by
  have e : HT.sIx xs.length xs.length (some ((x : Nat) : Int)) = min x xs.length := HT.sIx_nat xs.length xs.length x
  unfold cutV
  rw [e, HT.sIx_none, Nat.min_eq_left h]
  simp
/-- the columns over y -/
abbrev overEl (g : Reg) (y : Nat) : Nat → Option V := fun i => if y < hi g i then some (.int (i : Nat)) else none
theorem over_first {g : Reg} {y k : Nat} (h1 : y < hi g k) (h2 : ∀ i, i < k → hi g i ≤ y) : ∀ n, k < n → ((List.range n).filterMap (overEl g y))[0]? = some (.int (k : Nat))
  | 0, h => by omega
  | n + 1, h => by
    rw [fm_succ]
    by_cases e : k < n
    · have ih := over_first h1 h2 n e
      have hl : 0 < ((List.range n).filterMap (overEl g y)).length := (List.getElem?_eq_some_iff.mp ih).1
      rw [List.getElem?_append_left hl]
      exact ih
    · have e2 : k = n := by omega
      subst e2
      have e3 : (List.range k).filterMap (overEl g y) = [] := by
        rw [List.filterMap_eq_nil_iff]
        intro i hi2
        have := h2 i (List.mem_range.mp hi2)
        show (if y < hi g i then some (V.int (i : Nat)) else none) = none
        rw [if_neg (by omega)]
      rw [e3]
      show ((overEl g y k).toList)[0]? = _
      show ((if y < hi g k then some (V.int (k : Nat)) else none : Option V).toList)[0]? = _
      rw [if_pos h1]
      rfl
theorem any_take {g : Reg} (p : Nat × Nat → Bool) : ∀ n, n ≤ g.length → (g.take n).any p = ((List.range n).map fun i => p (lo g i, hi g i)).any id
  | 0, _ => by simp
  | n + 1, h => by
    rw [List.take_add_one, List.any_append, any_take p n (by omega), List.range_succ, List.map_append, List.any_append, getD_at (g := g) (i := n) (by omega)]
    simp
section
variable {P : Program} {w : World} {K : PySem.W.Frag} {mg : Str → Option Value} {base : Heap} {f : Addr} {fd : FuncData}
abbrev n_rows_for : List Str := ["region", "left", "right", "lefts", "rights", "x", "y", "is_barred", "at", "column"]
theorem sc_rows_for : FnScope n_rows_for ["region"] (defScope s_rows_for) := ⟨rfl, rfl, rfl, by decide +kernel, rfl, by decide +kernel, by decide +kernel⟩
def spRowsFor : Sp := fun vs H Q _ => ∃ (a : Addr) (g : Reg), vs = [.ref a] ∧ RegH H a g ∧ RegOk g 60 59 ∧
  ∀ p l m H', Same H H' → H' p = some (.tup [.ref l, .ref m]) → RowH H' l ((leftsOf g).map some) → RowH H' m ((rightsOf g).map some) → Q (.ref p) H'
theorem ok_rows_for (T : Bt mg) (G_end_of : Has P w K mg base 1 "end_of" ["region"] spEndOf) (F : FnP K "rows_for" s_rows_for f fd) : FnOk P w K mg base CX0 2 f fd ["region"] spRowsFor := by
  refine F.ok sc_rows_for (fun vs H Q E h => ?_) (fun cdv A outer s H vs Q E hr h => ?_)
  · obtain ⟨a, g, rfl, hg, ok, q⟩ := h
    rfl
  obtain ⟨a, g, rfl, hg, ok, q⟩ := h
  refine ⟨_, (PSs.nox (pss_cons (ps_asg (pe_fn G_end_of (hr.mono (by decide)) (pa_cons (pv 0) pa_nil)) (pg_tup rfl (pgs_cons (pg_name (i := 1) sc_rows_for.nd rfl (Or.inl rfl)) (pgs_cons (pg_name (i := 2) sc_rows_for.nd rfl (Or.inl rfl)) pgs_nil))))
  (pss_cons (ps_par (i := 3) (j := 4) (by rfl) sc_rows_for.nd rfl rfl (by decide) rfl rfl (pa_cons (pe_lst pa_nil) (pa_cons (pe_lst pa_nil) pa_nil)) (by rfl))
  (pss_cons (ps_for PassesOwn.never rfl (pi_range1 (by rfl) T.range (pa_cons (pv 1) pa_nil)) (pg_name (i := 5) sc_rows_for.nd rfl (Or.inl rfl)) (pss_one (ps_expr (pe_bm PySem.F.plainAttrs_list PySem.F.slot_list_append PySem.F.type_list_append mt_append (pv 3) (pa_cons (pe_ifExp (pt_cmpR op_gt (pe_ix ix_tup (pe_ix ix_tup (pv 0) (pe_op op_add (pv 5) pe_int) (fun _ _ => rfl)) pe_int (fun _ _ => rfl)) (pe_ix ix_tup (pe_ix ix_tup (pv 0) (pv 5) (fun _ _ => rfl)) pe_int (fun _ _ => rfl)) (nomark _)) (pe_ix ix_tup (pe_ix ix_tup (pv 0) (pe_op op_add (pv 5) pe_int) (fun _ _ => rfl)) pe_int (fun _ _ => rfl)) pe_int) pa_nil)))))
  (pss_cons (ps_for PassesOwn.never rfl (pi_range1 (by rfl) T.range (pa_cons (pv 2) pa_nil)) (pg_name (i := 6) sc_rows_for.nd rfl (Or.inr rfl)) (pss_cons (ps_set (i := 5) sc_rows_for.nd rfl (Or.inl rfl) (pe_ix ix_list (pe_lc (own := [("at", 8), ("column", 9)]) (g := (gTup K 2 (gCons (gName 8) (gCons (gName 9) gNil)))) rfl sc_rows_for.nd (pi_enumT (by rfl) T.enumerate (pa_cons (pv 0) pa_nil)) (blkOk_by (own := [("at", 8), ("column", 9)]) (N := n_rows_for) (sc := defScope s_rows_for) (by decide +kernel)) (fun _ _ _ _ _ => (pg_tup rfl (pgs_cons (pg_name (i := 8) sc_rows_for.nd rfl (Or.inl rfl)) (pgs_cons (pg_name (i := 9) sc_rows_for.nd rfl (Or.inl rfl)) pgs_nil)))) (fun _ _ _ _ _ => (pts_one (pt_cmpR op_gt (pe_ix (ix_tupK (K := K) rfl) (pv 9) pe_int (fun _ _ => rfl)) (pv 6) (nomark _)))) (fun _ _ _ _ _ => (pv 8))) pe_int (fun _ _ => rfl)))
  (pss_cons (ps_set (i := 7) sc_rows_for.nd rfl (Or.inl rfl) (pe_callB (cr_any rfl) (by rfl) T.any (by decide +kernel) (pa_cons (pe_lc (own := [("column", 9)]) (g := (gName 9)) (tt := tYes) rfl sc_rows_for.nd (pi_tup (pe_slice sl_tupA (pv 0) po_none (po_some (pv 5)))) (blkOk_by (own := [("column", 9)]) (N := n_rows_for) (sc := defScope s_rows_for) (by decide +kernel)) (fun _ _ _ _ _ => (pg_name (i := 9) sc_rows_for.nd rfl (Or.inl rfl))) (fun _ _ _ _ _ => pts_nil) (fun _ _ _ _ _ => (pe_chain op_le op_le (pe_ix (ix_tupK (K := K) rfl) (pv 9) pe_int (fun _ _ => rfl)) (pv 6) (pe_ix (ix_tupK (K := K) rfl) (pv 9) pe_int (fun _ _ => rfl))))) pa_nil)))
  (pss_one (ps_expr (pe_bm PySem.F.plainAttrs_list PySem.F.slot_list_append PySem.F.type_list_append mt_append (pv 4) (pa_cons (pe_ifExp (pt_val (pv 7)) (pv 5) pe_int) pa_nil)))))))
  (pss_one (ps_ret (pe_tup (pa_cons (pe_callTy call_tuple_of (by rfl) T.tuple (by decide +kernel) (pa_cons (pv 3) pa_nil)) (pa_cons (pe_callTy call_tuple_of (by rfl) T.tuple (by decide +kernel) (pa_cons (pv 4) pa_nil)) pa_nil)))))))))), ?_⟩
  have l1 := ok.pos
  have l2 := ok.wide
  walk_at "rd"
  refine ⟨a, g, rfl, hg, l1, l2, fun p H1 g1 hp => ?_⟩
  walk_at "rd"
  refine ⟨p, _, rfl, SqT.of hp, rfl, ?_⟩
  walk_at "rd"
  intro D1 hD1
  walk_at "rd"
  intro D2 hD2
  walk_at "rd"
  have ne : D1 ≠ D2 := fun e => by rw [← e, upd_same] at hD2; cases hD2
  have hD21 : H1 D2 = none := by rw [upd_ne (Ne.symm ne)] at hD2; exact hD2
  have hr59 : rightOf g ≤ 59 := (ok.col (g.length - 1) (by omega)).2
  refine ⟨by omega, by omega, ?_⟩
  rw [show (((g.length - 1 : Nat) : Int)).toNat = g.length - 1 by omega]
  refine for_it walk_range (fun x σ H' => Same H1 H' ∧ H' D1 = some (.lst ((List.range x).map fun i => V.int ((if lo g i < lo g (i + 1) then lo g (i + 1) else 0 : Nat) : Int))) ∧ H' D2 = some (.lst []) ∧
      ∃ x y z u v, σ = [some (.ref a), some (.int (g.length - 1 : Nat)), some (.int (rightOf g : Nat)), some (.ref D1), some (.ref D2), x, y, z, u, v])
    ⟨Same.mut (same_new hD1 _) hD21, by rw [upd_ne ne, upd_same]; rfl, upd_same, _, _, _, _, _, rfl⟩ (fun _ _ _ _ _ => trivial) ?_ (fun σ H2 p2 => ?_)
  · rintro x i0 σ H2 H3 hx ⟨g2, h1, h2, x0, y0, z0, u0, v0, rfl⟩ ⟨rfl, rfl⟩
    obtain ⟨xs, hxs, pr⟩ := RegH.mono hg (Same.t (g1.trans g2))
    have lx := paired_len pr
    obtain ⟨va, hva, ca, rfl, hca⟩ := paired_at pr (getD_at (g := g) (i := x) (by omega))
    obtain ⟨vb, hvb, cb, rfl, hcb⟩ := paired_at pr (getD_at (g := g) (i := x + 1) (by omega))
    walk_at "rd"
    refine ⟨.inl ⟨rfl, _, SqL.of (h1)⟩, ?_⟩
    walk_at "rd"
    refine ⟨a, _, _, _, rfl, rfl, SqT.of hxs, at_of (j := x + 1) (by omega) hvb, ?_⟩
    walk_at "rd"
    refine ⟨cb, _, _, _, rfl, rfl, SqT.of hcb, rfl, ?_⟩
    walk_at "rd"
    refine ⟨a, _, _, _, rfl, rfl, SqT.of hxs, at_of (j := x) (by omega) hva, ?_⟩
    walk_at "rd"
    refine ⟨ca, _, _, _, rfl, rfl, SqT.of hca, rfl, ?_⟩
    walk_at "rd"
    refine ite_te (H1 := H3) (V.int ((if lo g x < lo g (x + 1) then lo g (x + 1) else 0 : Nat) : Int)) (fun c Q q => ?_) (fun c Q q => ?_) ?_
    · have c := of_decide_eq_true c
      rw [if_pos (by omega)] at q
      walk_at "rd"
      refine ⟨a, _, _, _, rfl, rfl, SqT.of hxs, at_of (j := x + 1) (by omega) hvb, ?_⟩
      walk_at "rd"
      refine ⟨cb, _, _, _, rfl, rfl, SqT.of hcb, rfl, ?_⟩
      exact q
    · have c := of_decide_eq_false c
      rw [if_neg (by omega)] at q
      exact q
    walk_at "rd"
    refine ⟨D1, _, _, rfl, rfl, h1, sz100 (by simp; omega), ?_⟩
    refine ⟨Same.mut g2 hD1, ?_, by rw [upd_ne (Ne.symm ne)]; exact h2, _, _, _, _, _, rfl⟩
    rw [upd_same, List.range_succ, List.map_append]
    rfl
  obtain ⟨g2, h1, h2, x0, y0, z0, u0, v0, rfl⟩ := p2
  walk_at "rd"
  refine ⟨by omega, by omega, ?_⟩
  rw [show (((rightOf g : Nat) : Int)).toNat = rightOf g by omega]
  refine for_it walk_range (fun y σ H' => Same H1 H' ∧ H' D1 = some (.lst ((List.range (g.length - 1)).map fun i => V.int ((if lo g i < lo g (i + 1) then lo g (i + 1) else 0 : Nat) : Int))) ∧
      H' D2 = some (.lst ((List.range y).map fun y => V.int ((if barred g (firstOver g y) y = true then firstOver g y else 0 : Nat) : Int))) ∧
      ∃ x y z u v, σ = [some (.ref a), some (.int (g.length - 1 : Nat)), some (.int (rightOf g : Nat)), some (.ref D1), some (.ref D2), x, y, z, u, v])
    ⟨g2, h1, h2, _, _, _, _, _, rfl⟩ (fun _ _ _ _ _ => trivial) ?_ (fun σ H3 p3 => ?_)
  · rintro y i0 σ H3 H4 hy ⟨g3, h1, h2, x0, y0, z0, u0, v0, rfl⟩ ⟨rfl, rfl⟩
    obtain ⟨xs, hxs, pr⟩ := RegH.mono hg (Same.t (g1.trans g3))
    have lx := paired_len pr
    obtain ⟨f1, f2, f3⟩ := first_lt ok hy
    walk_at "rd"
    refine ⟨a, _, rfl, hxs, ?_⟩
    intro D3 hD3
    refine lc_val walk_enumT (overEl g y) hD3 (sz100 (by omega)) (fun H5 g5 => g5 _ _ hxs) ?_ ?_
    · rintro j w0 H5 H6 R R0 hj g5 ⟨pp, u, v, rfl, hpp, rfl, hu, hv⟩ k k0
      obtain rfl := Option.some.inj hu
      obtain ⟨cc, hc, c, rfl, hcc⟩ := paired_get pr hv
      rw [getD_at (g := g) (i := j) (by omega)] at hc
      obtain rfl := Option.some.inj hc
      have g6 := g5.trans (same_new hpp (HO.tup [V.int (j : Nat), V.ref c]))
      refine ⟨pp, _, rfl, SqT.of upd_same, rfl, ?_⟩
      walk_at "rd"
      refine ⟨c, _, _, _, rfl, rfl, SqT.of (g6 _ _ hcc), rfl, ?_⟩
      walk_at "rd"
      by_cases hw : y < hi g j
      · (refine iteT ?_ ?_; (· exact decide_eq_true (by show ((0 : Int) + (y : Int)) < ((hi g j : Nat) : Int); omega)))
        walk_at "rd"
        exact k _ _ (if_pos hw) (same_new hpp _)
      · (refine iteF ?_ ?_; (· exact decide_eq_false (by show ¬ ((0 : Int) + (y : Int)) < ((hi g j : Nat) : Int); omega)))
        exact k0 _ (if_neg hw) (same_new hpp _)
    · intro H5 g5 hl5
      rw [lx] at hl5
      walk_at "rd"
      refine ⟨D3, _, _, _, rfl, rfl, SqL.of hl5, at_of (j := 0) rfl (over_first f2 f3 _ f1), ?_⟩
      walk_at "rd"
      have hxs5 := g5 _ _ hxs
      have ht : ¬ (HT.sIx xs.length 0 none = 0 ∧ HT.sIx xs.length xs.length (some ((firstOver g y : Nat) : Int)) = xs.length) := by
        rintro ⟨_, e⟩
        rw [HT.sIx_nat] at e
        omega
      refine ⟨a, xs, rfl, SqT.of hxs5, fun e => absurd e ht, fun _ pc hpc => ?_⟩
      rw [cutV_to (by omega)]
      refine ⟨pc, rfl, ⟨_, SqT.of upd_same⟩, ?_⟩
      intro D4 hD4
      have hlt : (xs.take (firstOver g y)).length = firstOver g y := by rw [List.length_take]; omega
      refine lc_val (walk_tup (xs := xs.take (firstOver g y))) (fun i => some (V.bl (decide (lo g i ≤ y) && decide (y ≤ hi g i)))) hD4 (sz100 (by omega)) (fun H6 g6 => SqT.of (g6 _ _ upd_same)) ?_ ?_
      · rintro j w0 H6 H7 R R0 hj g6 ⟨rfl, hv⟩ k k0
        rw [List.getElem?_take_of_lt (by omega)] at hv
        obtain ⟨cc, hc, c, rfl, hcc⟩ := paired_get pr hv
        rw [getD_at (g := g) (i := j) (by omega)] at hc
        obtain rfl := Option.some.inj hc
        have hcc7 := ((g5.trans (same_new hpc (HO.tup (xs.take (firstOver g y))))).trans g6) _ _ hcc
        walk_at "rd"
        refine ⟨c, _, _, _, rfl, rfl, SqT.of hcc7, rfl, ?_⟩
        walk_at "rd"
        have k := k _ H7 rfl (Same.refl _)
        by_cases hw : lo g j ≤ y
        · (refine iteT ?_ ?_; (· exact decide_eq_true (by show ((lo g j : Nat) : Int) ≤ 0 + (y : Int); omega)))
          walk_at "rd"
          refine ⟨c, _, _, _, rfl, rfl, SqT.of hcc7, rfl, ?_⟩
          have e : decide ((0 + (y : Int)) ≤ ((hi g j : Nat) : Int)) = decide (y ≤ hi g j) := by rw [Bool.eq_iff_iff]; simp
          refine ⟨_, _, rfl, rfl, ?_⟩
          show R (V.bl (decide ((0 + (y : Int)) ≤ ((hi g j : Nat) : Int)))) H7
          rw [e]
          rw [decide_eq_true hw, Bool.true_and] at k
          exact k
        · (refine iteF ?_ ?_; (· exact decide_eq_false (by show ¬ ((lo g j : Nat) : Int) ≤ 0 + (y : Int); omega)))
          rw [decide_eq_false hw, Bool.false_and] at k
          exact k
      · intro H6 g6 hl6
        have hbl : ((List.range (firstOver g y)).map fun i => V.bl (decide (lo g i ≤ y) && decide (y ≤ hi g i))) = ((List.range (firstOver g y)).map fun i => (decide (lo g i ≤ y) && decide (y ≤ hi g i))).map V.bl := by rw [List.map_map]; rfl
        rw [hlt, fm_map, hbl] at hl6
        have gall : Same H4 H6 := g5.trans ((same_new hpc (HO.tup (xs.take (firstOver g y)))).trans g6)
        refine ⟨D4, _, rfl, SqL.of hl6, ?_⟩
        rw [show ((List.range (firstOver g y)).map fun i => (decide (lo g i ≤ y) && decide (y ≤ hi g i))).any id = barred g (firstOver g y) y from (any_take (g := g) (fun c => decide (c.1 ≤ y) && decide (y ≤ c.2)) _ (by omega)).symm]
        walk_at "rd"
        have h2b := gall _ _ h2
        have h1b := gall _ _ h1
        refine ⟨.inl ⟨rfl, _, SqL.of (h2b)⟩, ?_⟩
        walk_at "rd"
        refine ite_te (H1 := H6) (V.int ((if barred g (firstOver g y) y = true then firstOver g y else 0 : Nat) : Int)) (fun c Q q => ?_) (fun c Q q => ?_) ?_
        · rw [if_pos c] at q
          walk_at "rd"
          exact q
        · rw [if_neg (by rw [c]; decide)] at q
          exact q
        walk_at "rd"
        refine ⟨D2, _, _, rfl, rfl, h2b, sz100 (by simp; omega), ?_⟩
        refine ⟨Same.mut (g3.trans gall) hD21, by rw [upd_ne ne]; exact h1b, ?_, _, _, _, _, _, rfl⟩
        rw [upd_same, List.range_succ, List.map_append]
        rfl
  · obtain ⟨g3, h1, h2, x0, y0, z0, u0, v0, rfl⟩ := p3
    walk_at "rd"
    refine ⟨D1, _, rfl, .inl ⟨SqL.of h1, fun l hl => ?_⟩⟩
    walk_at "rd"
    refine ⟨D2, _, rfl, .inl ⟨SqL.of ((same_new hl _) _ _ h2), fun m hm2 => ?_⟩⟩
    walk_at "rd"
    refine ⟨by simp [sizeLine], fun p8 hp8 => ?_⟩
    have s1 := same_new hl (HO.tup ((List.range (g.length - 1)).map fun i => V.int ((if lo g i < lo g (i + 1) then lo g (i + 1) else 0 : Nat) : Int)))
    have s2 := same_new hm2 (HO.tup ((List.range (rightOf g)).map fun y => V.int ((if barred g (firstOver g y) y = true then firstOver g y else 0 : Nat) : Int)))
    have s3 := same_new hp8 (HO.tup [V.ref l, V.ref m])
    refine q p8 l m _ (g1.trans (g3.trans (s1.trans (s2.trans s3)))) upd_same ?_ ?_
    · refine s3 _ _ (s2 _ _ ?_)
      rw [upd_same, leftsOf, List.map_map, List.map_map]
      rfl
    · refine s3 _ _ ?_
      rw [upd_same, rightsOf, List.map_map, List.map_map]
      rfl
end
end Kl

/-! ## KlKinds -/
namespace Kl
/-! ### groups of a row -/
abbrev Grp := List (Option Nat × Nat)
def putG (v p : Nat) : List (Nat × Nat) → List (Nat × Nat)
  | [] => [(v, p)]
  | (u, q) :: r => if v < u then (v, p) :: (u, q) :: r else if v = u then (v, p) :: r else (u, q) :: putG v p r
def finG : Row → Nat → List (Nat × Nat) → List (Nat × Nat)
  | [], _, acc => acc
  | none :: r, i, acc => finG r (i + 1) acc
  | some v :: r, i, acc => finG r (i + 1) (if v = 0 then acc else putG v i acc)
def noneG : Row → Nat → Option Nat → Option Nat
  | [], _, acc => acc
  | none :: r, i, _ => noneG r (i + 1) (some i)
  | some _ :: r, i, acc => noneG r (i + 1) acc
def groupsOf (own : Row) : Grp := (finG own 0 []).map (fun p => (some p.1, p.2)) ++ (noneG own 0 none).toList.map fun p => (none, p)
/-- the same as a dict is built -/
def putN (ks : Grp) (k : Option Nat) (p : Nat) : Grp := if (ks.any fun x => decide (x.1 = k)) = true then ks.map (fun x => if x.1 = k then (x.1, p) else x) else ks ++ [(k, p)]
def lookN (ks : Grp) (k : Option Nat) : Option Nat := (ks.find? fun x => decide (x.1 = k)).map (·.2)
def stepN (ks : Grp) (i : Nat) (o : Option Nat) : Grp := if o = some 0 then ks else putN ks o i
def finOf (ks : Grp) : List (Nat × Nat) := ks.filterMap fun x => x.1.map fun v => (v, x.2)
theorem look_map (ks : Grp) (k j : Option Nat) (p : Nat) : lookN (ks.map fun x => if x.1 = k then (x.1, p) else x) j = (lookN ks j).map fun x => if j = k then p else x := by
  induction ks with
  | nil => rfl
  | cons x r ih =>
    unfold lookN at ih ⊢
    rw [List.map_cons, List.find?_cons, List.find?_cons]
    by_cases hk : x.1 = k
    · rw [if_pos hk]
      by_cases hj : x.1 = j
      · simp [hj, hj.symm.trans hk]
      · simp only [hj, decide_false]
        exact ih
    · rw [if_neg hk]
      by_cases hj : x.1 = j
      · have hjk : ¬ j = k := fun e => hk (hj.trans e)
        simp [hj, hjk]
      · simp only [hj, decide_false]
        exact ih
theorem look_any (ks : Grp) (k : Option Nat) : (ks.any fun x => decide (x.1 = k)) = (lookN ks k).isSome := by
  induction ks with
  | nil => rfl
  | cons x r ih =>
    unfold lookN at ih ⊢
    rw [List.any_cons, List.find?_cons]
    by_cases hk : x.1 = k
    · simp [hk]
    · simp only [hk, decide_false, Bool.false_or]
      exact ih
theorem look_snoc (ks : Grp) (k j : Option Nat) (p : Nat) (h : lookN ks k = none) : lookN (ks ++ [(k, p)]) j = if j = k then some p else lookN ks j := by
  unfold lookN at h ⊢
  rw [List.find?_append]
  have h' : ks.find? (fun x => decide (x.1 = k)) = none := by
    cases e : ks.find? (fun x => decide (x.1 = k)) with
    | none => rfl
    | some x => rw [e] at h; cases h
  by_cases hj : j = k
  · subst hj
    rw [h']
    simp
  · rw [if_neg hj]
    have hkj : ¬ k = j := fun e => hj e.symm
    cases e : ks.find? (fun x => decide (x.1 = j)) with
    | none => simp [hkj]
    | some x => simp
theorem look_put (ks : Grp) (k j : Option Nat) (p : Nat) : lookN (putN ks k p) j = if j = k then some p else lookN ks j := by
  unfold putN
  by_cases h : (ks.any fun x => decide (x.1 = k)) = true
  · rw [if_pos h, look_map]
    rw [look_any] at h
    by_cases hj : j = k
    · subst hj
      obtain ⟨x, hx⟩ := Option.isSome_iff_exists.mp h
      rw [hx]
      simp
    · rw [if_neg hj]
      cases lookN ks j <;> simp [hj]
  · rw [if_neg h]
    refine look_snoc ks k j p ?_
    rw [look_any] at h
    cases e : lookN ks k with
    | none => rfl
    | some x => rw [e] at h; exact absurd rfl h
def Asc (l : List (Nat × Nat)) : Prop := l.Pairwise fun a b => a.1 < b.1
theorem putG_mem {v p : Nat} : ∀ {l : List (Nat × Nat)} {x : Nat × Nat}, x ∈ putG v p l → x = (v, p) ∨ x ∈ l
  | [], x, h => by simp only [putG, List.mem_singleton] at h; exact .inl h
  | (u, q) :: r, x, h => by
    unfold putG at h
    split at h
    · rcases List.mem_cons.mp h with h | h
      · exact .inl h
      · exact .inr h
    · split at h
      · rcases List.mem_cons.mp h with h | h
        · exact .inl h
        · exact .inr (List.mem_cons_of_mem _ h)
      · rcases List.mem_cons.mp h with h | h
        · exact .inr (by rw [h]; exact List.mem_cons_self)
        · rcases putG_mem h with h | h
          · exact .inl h
          · exact .inr (List.mem_cons_of_mem _ h)
theorem putG_asc {v p : Nat} : ∀ {l : List (Nat × Nat)}, Asc l → Asc (putG v p l)
  | [], _ => List.pairwise_singleton _ _
  | (u, q) :: r, h => by
    obtain ⟨h1, h2⟩ := List.pairwise_cons.mp h
    unfold putG
    split
    · refine List.pairwise_cons.mpr ⟨fun x hx => ?_, h⟩
      rcases List.mem_cons.mp hx with e | e
      · rw [e]; assumption
      · exact Nat.lt_trans (by assumption) (h1 x e)
    · split
      · rename_i e
        subst e
        exact List.pairwise_cons.mpr ⟨h1, h2⟩
      · refine List.pairwise_cons.mpr ⟨fun x hx => ?_, putG_asc h2⟩
        rcases putG_mem hx with e | e
        · rw [e]; show u < v; omega
        · exact h1 x e
theorem finG_asc : ∀ (r : Row) (i : Nat) (acc : List (Nat × Nat)), Asc acc → Asc (finG r i acc)
  | [], _, _, h => h
  | none :: r, i, acc, h => finG_asc r (i + 1) acc h
  | some v :: r, i, acc, h => by
    unfold finG
    refine finG_asc r (i + 1) _ ?_
    split
    · exact h
    · exact putG_asc h
/-- there already: in its place -/
theorem putG_old {v p : Nat} : ∀ {l : List (Nat × Nat)}, Asc l → (∃ q, (v, q) ∈ l) → putG v p l = l.map fun x => if x.1 = v then (x.1, p) else x
  | [], _, ⟨q, h⟩ => by cases h
  | (u, q) :: r, h, ⟨q', hm⟩ => by
    obtain ⟨h1, h2⟩ := List.pairwise_cons.mp h
    unfold putG
    rw [List.map_cons]
    rcases List.mem_cons.mp hm with e | e
    · cases e
      rw [if_neg (Nat.lt_irrefl _), if_pos rfl, if_pos rfl]
      congr 1
      have : r.map (fun x => if x.1 = v then (x.1, p) else x) = r.map id := List.map_congr_left fun x hx => by
        have := h1 x hx
        rw [if_neg (by show ¬ x.1 = v; have : v < x.1 := this; omega)]
        rfl
      rw [this, List.map_id]
    · have hlt : u < v := h1 _ e
      rw [if_neg (by omega), if_neg (by omega), if_neg (by show ¬ u = v; omega), putG_old h2 ⟨q', e⟩]
theorem putG_new {v p : Nat} : ∀ {l : List (Nat × Nat)}, (∀ q, (v, q) ∉ l) → (putG v p l).Perm (l ++ [(v, p)])
  | [], _ => List.Perm.refl _
  | (u, q) :: r, h => by
    unfold putG
    split
    · exact (List.perm_append_comm (l₁ := [(v, p)]) (l₂ := (u, q) :: r))
    · split
      · rename_i e
        subst e
        exact absurd List.mem_cons_self (h q)
      · exact List.Perm.cons _ (putG_new fun q' hq => h q' (List.mem_cons_of_mem _ hq))
theorem finOf_none (ks : Grp) (p : Nat) : finOf (putN ks none p) = finOf ks := by
  unfold putN
  split
  · unfold finOf
    rw [List.filterMap_map]
    congr 1
    funext x
    obtain ⟨k, q⟩ := x
    cases k <;> simp
  · unfold finOf
    rw [List.filterMap_append]
    simp
theorem finOf_mem {ks : Grp} {v q : Nat} : (v, q) ∈ finOf ks ↔ (some v, q) ∈ ks := by
  unfold finOf
  rw [List.mem_filterMap]
  constructor
  · rintro ⟨⟨k, p⟩, h1, h2⟩
    cases k with
    | none => cases h2
    | some u => simp at h2; obtain ⟨rfl, rfl⟩ := h2; exact h1
  · intro h
    exact ⟨_, h, rfl⟩
theorem finOf_some {ks : Grp} {G : List (Nat × Nat)} (hp : (finOf ks).Perm G) (ha : Asc G) (v p : Nat) : (finOf (putN ks (some v) p)).Perm (putG v p G) := by
  unfold putN
  by_cases h : (ks.any fun x => decide (x.1 = some v)) = true
  · rw [if_pos h]
    obtain ⟨x, hx, e⟩ := List.any_eq_true.mp h
    have e := of_decide_eq_true e
    have hm : (v, x.2) ∈ G := hp.mem_iff.mp (finOf_mem.mpr (by rw [← e]; exact hx))
    rw [putG_old ha ⟨_, hm⟩]
    have e2 : finOf (ks.map fun x => if x.1 = some v then (x.1, p) else x) = (finOf ks).map fun x => if x.1 = v then (x.1, p) else x := by
      unfold finOf
      rw [List.filterMap_map, List.map_filterMap]
      congr 1
      funext x
      obtain ⟨k, q⟩ := x
      cases k with
      | none => simp
      | some u => by_cases hu : u = v <;> simp [hu]
    rw [e2]
    exact hp.map _
  · rw [if_neg h]
    have e2 : finOf (ks ++ [(some v, p)]) = finOf ks ++ [(v, p)] := by
      unfold finOf
      rw [List.filterMap_append]
      rfl
    rw [e2]
    refine (List.Perm.append_right _ hp).trans (putG_new fun q hq => ?_).symm
    have := finOf_mem.mp (hp.mem_iff.mpr hq)
    exact h (List.any_eq_true.mpr ⟨_, this, by simp⟩)
/-- the dict of a row, and what it comes to -/
def dictN : Row → Nat → Grp → Grp
  | [], _, ks => ks
  | o :: r, i, ks => dictN r (i + 1) (stepN ks i o)
theorem dictN_fin : ∀ (r : Row) (i : Nat) (ks : Grp) (G : List (Nat × Nat)), (finOf ks).Perm G → Asc G → (finOf (dictN r i ks)).Perm (finG r i G)
  | [], _, _, _, h, _ => h
  | none :: r, i, ks, G, h, ha => by
    unfold dictN finG stepN
    rw [if_neg (by simp)]
    exact dictN_fin r (i + 1) _ G (by rw [finOf_none]; exact h) ha
  | some v :: r, i, ks, G, h, ha => by
    unfold dictN finG stepN
    by_cases hv : v = 0
    · rw [if_pos (by rw [hv]), if_pos hv]
      exact dictN_fin r (i + 1) _ G h ha
    · rw [if_neg (by simp [hv]), if_neg hv]
      exact dictN_fin r (i + 1) _ _ (finOf_some h ha v i) (putG_asc ha)
theorem dictN_none : ∀ (r : Row) (i : Nat) (ks : Grp), lookN (dictN r i ks) none = noneG r i (lookN ks none)
  | [], _, _ => rfl
  | none :: r, i, ks => by
    unfold dictN noneG stepN
    rw [if_neg (by simp), dictN_none r, look_put, if_pos rfl]
  | some v :: r, i, ks => by
    unfold dictN noneG stepN
    by_cases hv : v = 0
    · rw [if_pos (by rw [hv]), dictN_none r]
    · rw [if_neg (by simp [hv]), dictN_none r, look_put, if_neg (by simp)]
theorem dictN_drop {r : Row} {i : Nat} {o : Option Nat} (h : r[i]? = some o) (ks : Grp) : dictN (r.drop i) i ks = dictN (r.drop (i + 1)) (i + 1) (stepN ks i o) := by
  obtain ⟨h1, h2⟩ := List.getElem?_eq_some_iff.mp h
  rw [List.drop_eq_getElem_cons h1, h2]
  rfl
/-! ### who shares with whom -/
def beyond (v : Option Nat) (p : Nat) : Bool := match v with
  | none => true
  | some v => decide (p < v)
def fitsAt (l : Option Nat × Nat) (right : Grp) : List Nat := (List.range right.length).filter fun j => beyond (right.getD j (none, 0)).1 l.2 && beyond l.1 (right.getD j (none, 0)).2
def tableOf (left right : Grp) : List (List Nat) := left.map fun l => fitsAt l right
/-! ### the matching -/
def putP : List (Nat × Nat) → Nat → Nat → List (Nat × Nat)
  | [], o, a => [(o, a)]
  | (o', a') :: r, o, a => if o' = o then (o', a) :: r else (o', a') :: putP r o a
def lookP : List (Nat × Nat) → Nat → Option Nat
  | [], _ => none
  | (o', a') :: r, o => if o' = o then some a' else lookP r o
abbrev AugR := Bool × List Nat × List (Nat × Nat)
def scan (rec : Nat → List Nat → List (Nat × Nat) → AugR) (at_ : Nat) : List Nat → List Nat → List (Nat × Nat) → AugR
  | [], S, P => (false, S, P)
  | o :: os, S, P => if S.contains o then scan rec at_ os S P
    else match lookP P o with
      | none => (true, S ++ [o], putP P o at_)
      | some a => match rec a (S ++ [o]) P with
        | (true, S2, P2) => (true, S2, putP P2 o at_)
        | (false, S2, P2) => scan rec at_ os S2 P2
def aug (T : List (List Nat)) : Nat → Nat → List Nat → List (Nat × Nat) → AugR
  | 0, _, S, P => (false, S, P)
  | n + 1, at_, S, P => scan (aug T n) at_ (T.getD at_ []) S P
def partnersUpTo (T : List (List Nat)) : Nat → List (Nat × Nat)
  | 0 => []
  | n + 1 => (aug T 61 n [] (partnersUpTo T n)).2.2
def partnersOf (T : List (List Nat)) : List (Nat × Nat) := partnersUpTo T T.length
def numberFor (lefts rights : Row) : Nat := (groupsOf lefts).length + (groupsOf rights).length - (partnersOf (tableOf (groupsOf lefts) (groupsOf rights))).length
end Kl

/-! ## D11 -/
namespace Kl
open PySem PySem.Spec PyProof.Rows L2
local macro_rules | `(tactic| walk_at "rd") => `(tactic| repeat (first | refine ⟨_, rfl, ?_⟩ | refine ⟨_, _, rfl, rfl, ?_⟩ | refine ⟨_, _, rfl, ?_⟩ | refine ⟨rfl, ?_⟩ | refine ⟨Or.inl ⟨by decide, by decide⟩, ?_⟩ | refine ⟨Or.inr ⟨by decide, by decide⟩, ?_⟩ | refine ⟨⟨by decide, by decide⟩, ?_⟩ | refine ⟨by decide, ?_⟩ | refine ⟨show (0 : Int) < _ from by decide, ?_⟩))
/-- a group -/
abbrev PairH (H : Hp) (v : V) (c : Option Nat × Nat) : Prop := ∃ p, v = .ref p ∧ H p = some (.tup [oV c.1, .int (c.2 : Nat)])
theorem PairH.mono {H H' : Hp} {v : V} {c : Option Nat × Nat} (g : TSame H H') (h : PairH H v c) : PairH H' v c := let ⟨p, h1, h2⟩ := h; ⟨p, h1, g _ _ h2⟩
def GrpH (H : Hp) (a : Addr) (g : Grp) : Prop := ∃ xs, H a = some (.lst xs) ∧ Paired (PairH H) xs g
theorem GrpH.mono {H H' : Hp} {a : Addr} {g : Grp} (h : GrpH H a g) (t : Same H H') : GrpH H' a g := let ⟨xs, h1, h2⟩ := h; ⟨xs, t _ _ h1, paired_mono h2 fun _ _ => PairH.mono (Same.t t)⟩
/-- a dict of groups as it stands -/
abbrev nK (x : Option Nat × Nat) : Option Int × V := (x.1.map fun v => (v : Int), .int (x.2 : Nat))
abbrev kO (o : Option Nat) : Option Int := o.map fun v => (v : Int)
theorem kO_inj {a b : Option Nat} : kO a = kO b ↔ a = b := by
  cases a <;> cases b <;> simp [kO]
  omega
theorem nV_kO (o : Option Nat) : nV (kO o) = oV o := by cases o <;> rfl
theorem put_nK (ks : Grp) (k : Option Nat) (p : Nat) : putK (ks.map nK) (kO k) (.int (p : Nat)) = (putN ks k p).map nK := by
  unfold putK putN
  have e : ((ks.map nK).any fun kv => decide (kv.1 = kO k)) = (ks.any fun x => decide (x.1 = k)) := by
    rw [List.any_map]
    congr 1
    funext x
    show decide (kO x.1 = kO k) = _
    rw [Bool.eq_iff_iff]
    simp only [decide_eq_true_eq]
    exact kO_inj
  rw [e]
  split
  · rw [List.map_map, List.map_map]
    refine List.map_congr_left fun x _ => ?_
    show (if kO x.1 = kO k then (kO x.1, V.int (p : Nat)) else nK x) = nK (if x.1 = k then (x.1, p) else x)
    by_cases h : x.1 = k
    · rw [if_pos h, if_pos (kO_inj.mpr h)]
    · rw [if_neg h, if_neg (fun z => h (kO_inj.mp z))]
  · rw [List.map_append]
    rfl
theorem val_nK (ks : Grp) (k : Option Nat) : valV (ks.map nK) (kO k) = (lookN ks k).map fun p => V.int (p : Nat) := by
  unfold valV lookN
  rw [List.find?_map, Option.map_map, Option.map_map]
  have e : ((fun kv : Option Int × V => decide (kv.1 = kO k)) ∘ nK) = fun x : Option Nat × Nat => decide (x.1 = k) := by
    funext x
    show decide (kO x.1 = kO k) = _
    rw [Bool.eq_iff_iff]
    simp only [decide_eq_true_eq]
    exact kO_inj
  rw [e]
  rfl
theorem putN_len (ks : Grp) (k : Option Nat) (p : Nat) : (putN ks k p).length ≤ ks.length + 1 := by
  unfold putN
  split <;> simp
theorem row_of {row : Row} {i : Nat} {v : V} (h : (row.map oV)[i]? = some v) : ∃ o, row[i]? = some o ∧ v = oV o := by
  rw [List.getElem?_map] at h
  cases e : row[i]? with
  | none => rw [e] at h; cases h
  | some o => rw [e] at h; exact ⟨o, rfl, (Option.some.inj h).symm⟩
theorem oV_zero (o : Option Nat) : decide (oV o = V.int 0) = decide (o = some 0) := by
  cases o with
  | none => rfl
  | some v =>
    rw [Bool.eq_iff_iff]
    simp only [decide_eq_true_eq, Option.some.injEq]
    constructor
    · intro h
      have e : ((v : Nat) : Int) = 0 := by simpa [oV] using h
      omega
    · intro h
      rw [h]
      rfl
theorem scal_oV (o : Option Nat) (i : Int) : scal (oV o) (V.int i) = true := by cases o <;> rfl
abbrev toI (d : Nat × Nat) : Int × Int := ((d.1 : Nat), (d.2 : Nat))
abbrev repI (H : Hp) (v : V) (d : Nat × Nat) : Prop := ∃ p, v = .ref p ∧ H p = some (.tup [.int (d.1 : Nat), .int (d.2 : Nat)])
theorem repI_map {H : Hp} : ∀ {us : List V} {fin : List (Nat × Nat)}, Paired (repI H) us fin → us.map (tupOf H) = fin.map toI
  | _, _, .nil => rfl
  | _, _, .cons r t => by
    obtain ⟨p, rfl, hp⟩ := r
    rw [List.map_cons, List.map_cons, repI_map t, tupOf_is hp]
theorem repI_mem {H : Hp} : ∀ {us : List V} {fin : List (Nat × Nat)}, Paired (repI H) us fin → ∀ x ∈ us, ∃ t, x = V.ref t ∧ H t = some (.tup [.int (tupOf H x).1, .int (tupOf H x).2])
  | _, _, .nil, x, h => by cases h
  | _, _, .cons r t, x, h => by
    rcases List.mem_cons.mp h with e | e
    · obtain ⟨p, rfl, hp⟩ := r
      subst e
      exact ⟨p, rfl, by rw [tupOf_is hp]; exact hp⟩
    · exact repI_mem t x e
theorem pairs_back {H : Hp} : ∀ {ys : List V} {G : List (Nat × Nat)}, (∀ x ∈ ys, ∃ t, x = V.ref t ∧ H t = some (.tup [.int (tupOf H x).1, .int (tupOf H x).2])) → ys.map (tupOf H) = G.map toI →
    Paired (PairH H) ys (G.map fun p => (some p.1, p.2))
  | [], [], _, _ => .nil
  | [], _ :: _, _, e => by cases e
  | _ :: _, [], _, e => by cases e
  | y :: ys, d :: G, h, e => by
    rw [List.map_cons, List.map_cons] at e
    injection e with e1 e2
    obtain ⟨t, rfl, ht⟩ := h y List.mem_cons_self
    rw [e1] at ht
    exact .cons ⟨t, rfl, ht⟩ (pairs_back (fun x hx => h x (List.mem_cons_of_mem _ hx)) e2)
theorem grp_sorted {H : Hp} {us ys : List V} {fin G : List (Nat × Nat)} (pr : Paired (repI H) us fin) (hs : SrtO.Srtd (ltP (tupOf H)) ys) (hp : ys.Perm us) (hf : fin.Perm G) (ha : Asc G) : Paired (PairH H) ys (G.map fun p => (some p.1, p.2)) := by
  refine pairs_back (fun x hx => repI_mem pr x (hp.mem_iff.mp hx)) ?_
  have h1 : (ys.map (tupOf H)).Perm (G.map toI) := (hp.map _).trans (by rw [repI_map pr]; exact hf.map _)
  refine List.Perm.eq_of_pairwise (le := fun x y => SrtO.lexB y x = false) (fun a b _ _ hab hba => ?_) ?_ ?_ h1
  · have q1 := SrtO.lexB_no.mp hab
    have q2 := SrtO.lexB_no.mp hba
    obtain ⟨a1, a2⟩ := a
    obtain ⟨b1, b2⟩ := b
    simp only at q1 q2
    have e1 : a1 = b1 := by omega
    have e2 : a2 = b2 := by omega
    rw [e1, e2]
  · exact List.pairwise_map.mpr hs
  · refine List.pairwise_map.mpr (List.Pairwise.imp (R := fun a b : Nat × Nat => a.1 < b.1) (fun {a b} h => ?_) ha)
    refine SrtO.lexB_no.mpr ?_
    show ¬ (((b.1 : Nat) : Int) < ((a.1 : Nat) : Int) ∨ ((b.1 : Nat) : Int) = ((a.1 : Nat) : Int) ∧ ((b.2 : Nat) : Int) < ((a.2 : Nat) : Int))
    omega
theorem range_bind {α β : Type} (ks : List α) (f : α → Option β) : (List.range ks.length).filterMap (fun i => (ks[i]?).bind f) = ks.filterMap f := by
  have h : ∀ n, n ≤ ks.length → (List.range n).filterMap (fun i => (ks[i]?).bind f) = (ks.take n).filterMap f := by
    intro n
    induction n with
    | zero => intro _; rfl
    | succ n ih =>
      intro hn
      obtain ⟨x, hx⟩ := get_ex (xs := ks) (i := n) (by omega)
      rw [fm_succ, ih (by omega), List.take_add_one, List.filterMap_append, hx]
      congr 1
  rw [h _ (Nat.le_refl _), List.take_length]
theorem repI_mono {H H' : Hp} {v : V} {d : Nat × Nat} (g : TSame H H') (h : repI H v d) : repI H' v d := let ⟨p, h1, h2⟩ := h; ⟨p, h1, g _ _ h2⟩
theorem groups_len (row : Row) : (finG row 0 []).length + (noneG row 0 none).toList.length = (groupsOf row).length := by simp [groupsOf]
theorem putG_len (v p : Nat) : ∀ l : List (Nat × Nat), (putG v p l).length ≤ l.length + 1
  | [] => Nat.le_refl _
  | (u, q) :: r => by
    have := putG_len v p r
    unfold putG
    split
    · simp
    · split
      · simp
      · simpa using this
theorem finG_len : ∀ (r : Row) (i : Nat) (acc : List (Nat × Nat)), (finG r i acc).length ≤ acc.length + r.length
  | [], _, _ => Nat.le_refl _
  | none :: r, i, acc => by
    have := finG_len r (i + 1) acc
    unfold finG
    simp only [List.length_cons]
    omega
  | some v :: r, i, acc => by
    have := finG_len r (i + 1) (if v = 0 then acc else putG v i acc)
    have h2 := putG_len v i acc
    unfold finG
    simp only [List.length_cons]
    split at this <;> rename_i hv <;> simp only [hv, if_true, if_false] at this ⊢ <;> omega
section
variable {P : Program} {w : World} {K : PySem.W.Frag} {mg : Str → Option Value} {base : Heap} {f : Addr} {fd : FuncData}
abbrev n_groups_of : List Str := ["own", "found", "place", "value", "numbers"]
theorem sc_groups_of : FnScope n_groups_of ["own"] (defScope s_groups_of) := ⟨rfl, rfl, rfl, by decide +kernel, rfl, by decide +kernel, by decide +kernel⟩
def spGroupsOf : Sp := fun vs H Q _ => ∃ (a : Addr) (row : Row), vs = [.ref a] ∧ RowH H a row ∧ row.length < 60 ∧ ∀ p H', Same H H' → GrpH H' p (groupsOf row) → Q (.ref p) H'
theorem ok_groups_of (T : Bt mg) (F : FnP K "groups_of" s_groups_of f fd) : FnOk P w K mg base CX0 1 f fd ["own"] spGroupsOf := by
  refine F.ok sc_groups_of (fun vs H Q E h => ?_) (fun cdv A outer s H vs Q E hr h => ?_)
  · obtain ⟨a, row, rfl, ha, hl, q⟩ := h
    rfl
  obtain ⟨a, row, rfl, ha, hl, q⟩ := h
  refine ⟨_, (PSs.nox (pss_cons (ps_set (i := 1) sc_groups_of.nd rfl (Or.inl rfl) pe_dnewN)
  (pss_cons (ps_for PassesOwn.never rfl (pi_enumT (by rfl) T.enumerate (pa_cons (pv 0) pa_nil)) (pg_tup rfl (pgs_cons (pg_name (i := 2) sc_groups_of.nd rfl (Or.inl rfl)) (pgs_cons (pg_name (i := 3) sc_groups_of.nd rfl (Or.inl rfl)) pgs_nil))) (pss_one (ps_if (pt_cmpR op_ne (pv 3) pe_int (nomark _)) (pss_one (ps_asg (pv 2) (pg_sub (pv 1) (pv 3) set_N))) pss_nil)))
  (pss_cons (ps_lock (ps_set (i := 4) sc_groups_of.nd rfl (Or.inl rfl) (pe_callB cr_sortedPO (by rfl) T.sorted (by decide +kernel) (pa_cons (pe_lc (own := [("value", 3), ("place", 2)]) (g := (gTup K 2 (gCons (gName 3) (gCons (gName 2) gNil)))) rfl sc_groups_of.nd (pi_itemsN (pv 1)) (blkOk_by (own := [("value", 3), ("place", 2)]) (N := n_groups_of) (sc := defScope s_groups_of) (by decide +kernel)) (fun _ _ _ _ _ => (pg_tup rfl (pgs_cons (pg_name (i := 3) sc_groups_of.nd rfl (Or.inl rfl)) (pgs_cons (pg_name (i := 2) sc_groups_of.nd rfl (Or.inl rfl)) pgs_nil)))) (fun _ _ _ _ _ => (pts_one (pt_cmpR op_notN (pv 3) pe_non (nomark _)))) (fun _ _ _ _ _ => (pe_tup (pa_cons (pv 3) (pa_cons (pv 2) pa_nil))))) pa_nil))))
  (pss_one (ps_ret (pe_op op_cat (pv 4) (pe_ifExp (pt_cmpR op_inN pe_non (pv 1) (by rfl)) (pe_lst (pa_cons (pe_tup (pa_cons pe_non (pa_cons (pe_ix ix_N (pv 1) pe_non (fun _ _ => rfl)) pa_nil))) pa_nil)) (pe_lst pa_nil))))))))), ?_⟩
  walk_at "rd"
  intro D hD
  walk_at "rd"
  have lr : (row.map oV).length = row.length := List.length_map ..
  refine ⟨a, _, rfl, same_new hD _ _ _ ha, ?_⟩
  refine for_it walk_enumT (fun i σ H' => Same H H' ∧ ∃ (ks : Grp) (x y z : Option V), H' D = some (NDict P w D (ks.map nK)) ∧ ks.length ≤ i ∧ dictN (row.drop i) i ks = dictN row 0 [] ∧ σ = [some (.ref a), some (.ref D), x, y, z])
    ⟨same_new hD _, [], _, _, _, upd_same, Nat.le_refl _, rfl, rfl⟩ (fun i σ H' _ p => p.1 _ _ ha) ?_ (fun σ H2 p2 => ?_)
  · rintro i x σ H2 H3 hi ⟨g2, ks, x0, y0, z0, hks, hkl, inv, rfl⟩ ⟨p, u, v, rfl, hp, rfl, hu, hv⟩
    obtain rfl := Option.some.inj hu
    obtain ⟨o, ho, rfl⟩ := row_of hv
    refine ⟨p, _, rfl, SqT.of upd_same, rfl, ?_⟩
    walk_at "rd"
    refine ⟨scal_oV _ _, ?_⟩
    have g3 := g2.trans (same_new hp (HO.tup [V.int (i : Nat), oV o]))
    have hks3 := same_new hp (HO.tup [V.int (i : Nat), oV o]) _ _ hks
    rw [dictN_drop ho] at inv
    rw [oV_zero]
    walk_at "rd"
    by_cases hz : o = some 0
    · (refine iteF ?_ ?_; (· rw [decide_eq_true hz]; rfl))
      unfold stepN at inv
      rw [if_pos hz] at inv
      exact ⟨g3, ks, _, _, _, hks3, by omega, inv, rfl⟩
    · (refine iteT ?_ ?_; (· rw [decide_eq_false hz]; rfl))
      unfold stepN at inv
      rw [if_neg hz] at inv
      walk_at "rd"
      refine ⟨D, kO o, ks.map nK, rfl, (nV_kO o).symm, hks3, by rw [List.length_map]; exact sz100 (by omega), ?_⟩
      have hk4 : putK (ks.map nK) (kO o) (V.int (i : Nat)) = (putN ks o i).map nK := put_nK ks o i
      rw [hk4]
      have := putN_len ks o i
      exact ⟨Same.mut g3 hD, putN ks o i, _, _, _, upd_same, by omega, inv, rfl⟩
  · obtain ⟨g2, ks, x0, y0, z0, hks, hkl, inv, rfl⟩ := p2
    rw [lr] at hkl inv
    rw [List.drop_eq_nil_of_le (Nat.le_refl _)] at inv
    have inv : ks = dictN row 0 [] := inv
    have hfin := dictN_fin row 0 [] [] (List.Perm.refl _) List.Pairwise.nil
    have hnone := dictN_none row 0 []
    have hasc := finG_asc row 0 [] List.Pairwise.nil
    rw [← inv] at hfin hnone
    refine ⟨D, _, hks, trivial, fun od => ?_⟩
    have hL : (upd H2 D (HO.frz od (NDict P w D (ks.map nK)))) D = some (.frz od (NDict P w D (ks.map nK))) := upd_same
    have gL : Same H (upd H2 D (HO.frz od (NDict P w D (ks.map nK)))) := Same.mut g2 hD
    generalize upd H2 D (HO.frz od (NDict P w D (ks.map nK))) = HL at hL gL ⊢
    walk_at "rd"
    refine ⟨D, od, ks.map nK, rfl, hL, ?_⟩
    intro D2 hD2
    refine lc_rep walk_itemsN repI repI_mono (fun i => (ks[i]?).bind fun x => x.1.map fun v => (v, x.2)) hD2 (by rw [List.length_map]; exact sz100 (by omega)) (fun H3 g3 => g3 _ _ hL) ?_ ?_
    · rintro i x H3 H4 R R0 hi g3 ⟨p, u, v, rfl, hp, rfl, hu, hv⟩ k k0
      rw [List.length_map] at hi
      obtain ⟨⟨o, n⟩, ho⟩ := get_ex hi
      have hu2 : u = oV o := by
        have : ((ks.map nK)[i]?).map (fun p => nV p.1) = some u := hu
        rw [List.getElem?_map, ho] at this
        have := Option.some.inj this
        rw [← this]
        exact nV_kO o
      have hv2 : v = V.int (n : Nat) := by
        have : ((ks.map nK)[i]?).map (·.2) = some v := hv
        rw [List.getElem?_map, ho] at this
        exact (Option.some.inj this).symm
      subst hu2 hv2
      refine ⟨p, _, rfl, SqT.of upd_same, rfl, ?_⟩
      walk_at "rd"
      rw [ho] at k k0
      cases o with
      | none =>
        walk_at "rd"
        exact k0 _ rfl (same_new hp _)
      | some m =>
        walk_at "rd"
        refine ⟨by simp [sizeLine], fun p9 hp9 => ?_⟩
        exact k (m, n) _ _ rfl ((same_new hp _).trans (same_new hp9 _)) ⟨p9, rfl, upd_same⟩
    · intro H3 us g3 hus pr
      have efin : (List.range (ks.map nK).length).filterMap (fun i => (ks[i]?).bind fun x => x.1.map fun v => (v, x.2)) = finOf ks := by
        rw [List.length_map]
        exact range_bind ks _
      rw [efin] at pr
      walk_at "rd"
      refine ⟨D2, us, tupOf H3, rfl, SqL.of hus, repI_mem pr, fun ys D4 hs hp hD4 => ?_⟩
      have prs := grp_sorted pr hs hp.perm hfin hasc
      have hD3 := g3 _ _ hL
      walk_at "rd"
      refine ⟨by rw [upd_ne (ne_of_none hD3 hD4)]; exact hD3, ?_⟩
      have neD4 : D ≠ D4 := ne_of_none hD3 hD4
      have hys : (upd (upd H3 D4 (HO.lst ys)) D (NDict P w D (ks.map nK))) D4 = some (.lst ys) := by rw [upd_ne (Ne.symm neD4), upd_same]
      have hDn : (upd (upd H3 D4 (HO.lst ys)) D (NDict P w D (ks.map nK))) D = some (NDict P w D (ks.map nK)) := upd_same
      have gN : Same H (upd (upd H3 D4 (HO.lst ys)) D (NDict P w D (ks.map nK))) := Same.mut ((gL.trans g3).trans (same_new hD4 _)) hD
      have prs := paired_mono prs fun _ _ => PairH.mono ((Same.t (same_new hD4 (HO.lst ys))).trans (TSame.mut (H' := upd H3 D4 (HO.lst ys)) (p := D) (o := NDict P w D (ks.map nK)) (TSame.refl _) fun xs z => by rw [upd_ne neD4, hD3] at z; cases z))
      generalize upd (upd H3 D4 (HO.lst ys)) D (NDict P w D (ks.map nK)) = HN at hys hDn gN prs ⊢
      have hval := val_nK ks none
      rw [hnone] at hval
      have gl := groups_len row
      have f1 := finG_len row 0 []
      have f2 : (noneG row 0 none).toList.length ≤ 1 := by cases noneG row 0 none <;> simp
      have ly := paired_len prs
      rw [List.length_map] at ly
      simp only [List.length_nil] at f1
      walk_at "rd"
      refine ⟨none, D, _, rfl, rfl, hDn, ?_⟩
      rw [show valV (ks.map nK) none = (noneG row 0 none).map fun p => V.int (p : Nat) from hval]
      unfold groupsOf at q
      cases hn : noneG row 0 none with
      | none =>
        rw [hn] at q
        simp only [Option.toList_none, List.map_nil, List.append_nil] at q
        walk_at "rd"
        intro e hE
        walk_at "rd"
        refine ⟨D4, e, ys, [], rfl, rfl, same_new hE _ _ _ hys, upd_same, by rw [List.length_nil]; exact Nat.le_of_lt (sz100 (by omega)), fun p hp => ?_⟩
        rw [List.append_nil]
        have gE := (same_new hE (HO.lst [])).trans (same_new hp (HO.lst ys))
        exact q p _ (gN.trans gE) ⟨ys, upd_same, paired_mono prs fun _ _ => PairH.mono (Same.t gE)⟩
      | some m =>
        rw [hn] at q
        simp only [Option.toList_some, List.map_cons, List.map_nil] at q
        walk_at "rd"
        refine ⟨none, D, _, V.int (m : Nat), rfl, rfl, hDn, ?_, ?_⟩
        · rw [show valV (ks.map nK) none = (noneG row 0 none).map fun p => V.int (p : Nat) from hval, hn]
          rfl
        walk_at "rd"
        refine ⟨by simp [sizeLine], fun t hT => ?_⟩
        walk_at "rd"
        refine ⟨by simp [sizeLine], fun e hE => ?_⟩
        walk_at "rd"
        have gE := (same_new hT (HO.tup [V.non, V.int (m : Nat)])).trans (same_new hE (HO.lst [V.ref t]))
        refine ⟨D4, e, ys, [.ref t], rfl, rfl, gE _ _ hys, upd_same, by simp only [List.length_cons, List.length_nil]; exact Nat.le_of_lt (sz100 (by omega)), fun p hp => ?_⟩
        have gF := gE.trans (same_new hp (HO.lst (ys ++ [V.ref t])))
        refine q p _ (gN.trans gF) ⟨_, upd_same, paired_snoc (paired_mono prs fun _ _ => PairH.mono (Same.t gF)) ⟨t, rfl, ?_⟩⟩
        refine same_new hp _ _ _ (same_new hE _ _ _ ?_)
        rw [upd_same]
        rfl
end
end Kl

/-! ## D12 -/
namespace Kl
open PySem PySem.Spec PyProof.Rows L2
local macro_rules | `(tactic| walk_at "rd") => `(tactic| repeat (first | refine ⟨_, rfl, ?_⟩ | refine ⟨_, _, rfl, rfl, ?_⟩ | refine ⟨_, _, rfl, ?_⟩ | refine ⟨rfl, ?_⟩ | refine ⟨Or.inl ⟨by decide, by decide⟩, ?_⟩ | refine ⟨Or.inr ⟨by decide, by decide⟩, ?_⟩ | refine ⟨⟨by decide, by decide⟩, ?_⟩ | refine ⟨by decide, ?_⟩ | refine ⟨show (0 : Int) < _ from by decide, ?_⟩))
/-- a table: lists of numbers -/
abbrev OsH (H : Hp) (v : V) (os : List Nat) : Prop := ∃ p, v = .ref p ∧ H p = some (.lst (os.map fun o => V.int ((o : Nat) : Int)))
theorem OsH.mono {H H' : Hp} {v : V} {os : List Nat} (g : Same H H') (h : OsH H v os) : OsH H' v os := let ⟨p, h1, h2⟩ := h; ⟨p, h1, g _ _ h2⟩
/-- .. that are not t itself -/
abbrev OsT (t : Addr) (H : Hp) (v : V) (os : List Nat) : Prop := ∃ p, v = .ref p ∧ p ≠ t ∧ H p = some (.lst (os.map fun o => V.int ((o : Nat) : Int)))
theorem OsT.mono {t : Addr} {H H' : Hp} {v : V} {os : List Nat} (g : ∀ b u, b ≠ t → H b = some u → H' b = some u) (h : OsT t H v os) : OsT t H' v os := let ⟨p, h1, h2, h3⟩ := h; ⟨p, h1, h2, g _ _ h2 h3⟩
def TableH (H : Hp) (a : Addr) (T : List (List Nat)) : Prop := ∃ xs, H a = some (.lst xs) ∧ Paired (OsH H) xs T
theorem TableH.mono {H H' : Hp} {a : Addr} {T : List (List Nat)} (h : TableH H a T) (t : Same H H') : TableH H' a T := let ⟨xs, h1, h2⟩ := h; ⟨xs, t _ _ h1, paired_mono h2 fun _ _ => OsH.mono t⟩
/-- whether two groups share a kind -/
def fit (l : Option Nat × Nat) (right : Grp) (j : Nat) : Bool := beyond (right.getD j (none, 0)).1 l.2 && beyond l.1 (right.getD j (none, 0)).2
theorem getD_of {right : Grp} {j : Nat} {c : Option Nat × Nat} (h : right[j]? = some c) : right.getD j (none, 0) = c := by rw [List.getD_eq_getElem?_getD, h]; rfl
theorem filter_map_if (p : Nat → Bool) : ∀ n, (List.range n).filterMap (fun i => if p i = true then some (V.int ((i : Nat) : Int)) else none) = ((List.range n).filter p).map fun i => V.int ((i : Nat) : Int)
  | 0 => rfl
  | n + 1 => by
    rw [fm_succ, List.range_succ, List.filter_append, List.map_append, filter_map_if p n]
    congr 1
    by_cases h : p n = true <;> simp [h]
theorem tableOf_at {left right : Grp} {i : Nat} {c : Option Nat × Nat} (h : left[i]? = some c) : (tableOf left right).take (i + 1) = (tableOf left right).take i ++ [fitsAt c right] := by
  unfold tableOf
  rw [List.take_add_one, List.getElem?_map, h]
  rfl
theorem groups_le (row : Row) : (groupsOf row).length ≤ row.length + 1 := by
  have f1 := finG_len row 0 []
  have f2 : (noneG row 0 none).toList.length ≤ 1 := by cases noneG row 0 none <;> simp
  have gl := groups_len row
  simp only [List.length_nil] at f1
  omega
section
variable {P : Program} {w : World} {K : PySem.W.Frag} {mg : Str → Option Value} {base : Heap} {f : Addr} {fd : FuncData}
abbrev n_is_beyond : List Str := ["value", "place"]
theorem sc_is_beyond : FnScope n_is_beyond ["value", "place"] (defScope s_is_beyond) := ⟨rfl, rfl, rfl, by decide +kernel, rfl, by decide +kernel, by decide +kernel⟩
def spIsBeyond : Sp := fun vs H Q _ => ∃ (o : Option Nat) (p : Nat), vs = [oV o, .int (p : Nat)] ∧ Q (.bl (beyond o p)) H
theorem ok_is_beyond (T : Bt mg) (F : FnP K "is_beyond" s_is_beyond f fd) : FnOk P w K mg base CX0 1 f fd ["value", "place"] spIsBeyond := by
  refine F.ok sc_is_beyond (fun vs H Q E h => ?_) (fun cdv A outer s H vs Q E hr h => ?_)
  · obtain ⟨o, p, rfl, q⟩ := h
    rfl
  obtain ⟨o, p, rfl, q⟩ := h
  refine ⟨_, (pss_one (ps_ret (pe_or (pe_cmpR op_isN (pv 0) pe_non (nomark _)) (pe_one (pe_cmpR op_gt (pv 0) (pv 1) (nomark _)))))), ?_⟩
  cases o with
  | none =>
    walk_at "rd"
    exact q
  | some v =>
    walk_at "rd"
    have e : (decide (((p : Nat) : Int) < ((v : Nat) : Int))) = beyond (some v) p := by unfold beyond; rw [Bool.eq_iff_iff]; simp
    show Q (V.bl (decide (((p : Nat) : Int) < ((v : Nat) : Int)))) H
    rw [e]
    exact q
abbrev n_sharing : List Str := ["lefts", "rights", "left", "right", "table", "value", "place", "fits", "other", "last", "at", "is_fit"]
theorem sc_sharing : FnScope n_sharing ["lefts", "rights"] (defScope s_sharing) := ⟨rfl, rfl, rfl, by decide +kernel, rfl, by decide +kernel, by decide +kernel⟩
def spSharing : Sp := fun vs H Q _ => ∃ (a b : Addr) (lefts rights : Row), vs = [.ref a, .ref b] ∧ RowH H a lefts ∧ RowH H b rights ∧ lefts.length < 60 ∧ rights.length < 60 ∧
  ∀ p l r t H', Same H H' → H' p = some (.tup [.ref l, .ref r, .ref t]) → GrpH H' l (groupsOf lefts) → GrpH H' r (groupsOf rights) → TableH H' t (tableOf (groupsOf lefts) (groupsOf rights)) → Q (.ref p) H'
theorem ok_sharing (T : Bt mg) (G_groups_of : Has P w K mg base 1 "groups_of" ["own"] spGroupsOf) (G_is_beyond : Has P w K mg base 1 "is_beyond" ["value", "place"] spIsBeyond) (F : FnP K "sharing" s_sharing f fd) : FnOk P w K mg base CX0 2 f fd ["lefts", "rights"] spSharing := by
  refine F.ok sc_sharing (fun vs H Q E h => ?_) (fun cdv A outer s H vs Q E hr h => ?_)
  · obtain ⟨a, b, lefts, rights, rfl, ha, hb, hl, hr2, q⟩ := h
    rfl
  obtain ⟨a, b, lefts, rights, rfl, ha, hb, hl, hr2, q⟩ := h
  refine ⟨_, (PSs.nox (pss_cons (ps_par (i := 2) (j := 3) (by rfl) sc_sharing.nd rfl rfl (by decide) rfl rfl (pa_cons (pe_fn G_groups_of (hr.mono (by decide)) (pa_cons (pv 0) pa_nil)) (pa_cons (pe_fn G_groups_of (hr.mono (by decide)) (pa_cons (pv 1) pa_nil)) pa_nil)) (by rfl))
  (pss_cons (ps_set (i := 4) sc_sharing.nd rfl (Or.inl rfl) (pe_lst pa_nil))
  (pss_cons (ps_for PassesOwn.never rfl (pi_list (pv 2)) (pg_tup rfl (pgs_cons (pg_name (i := 5) sc_sharing.nd rfl (Or.inr rfl)) (pgs_cons (pg_name (i := 6) sc_sharing.nd rfl (Or.inr rfl)) pgs_nil))) (pss_cons (ps_setLc (i := 7) (own := [("other", 8), ("last", 9)]) (g := (gTup K 2 (gCons (gName 8) (gCons (gName 9) gNil)))) (tt := tYes) rfl sc_sharing.nd rfl rfl (sw_true rfl rfl rfl (by decide +kernel)) (pi_list (pv 3)) (blkOk_by (own := [("other", 8), ("last", 9)]) (N := n_sharing) (sc := defScope s_sharing) (by decide +kernel)) (fun _ _ _ _ _ => (pg_tup rfl (pgs_cons (pg_name (i := 8) sc_sharing.nd rfl (Or.inl rfl)) (pgs_cons (pg_name (i := 9) sc_sharing.nd rfl (Or.inl rfl)) pgs_nil)))) (fun _ _ _ _ _ => pts_nil) (fun _ _ _ _ _ => (pe_and (pe_fn G_is_beyond (hr.mono (by decide)) (pa_cons (pv 8) (pa_cons (pv 6) pa_nil))) (pe_one (pe_fn G_is_beyond (hr.mono (by decide)) (pa_cons (pv 5) (pa_cons (pv 9) pa_nil)))))))
  (pss_one (ps_expr (pe_bm PySem.F.plainAttrs_list PySem.F.slot_list_append PySem.F.type_list_append mt_append (pv 4) (pa_cons (pe_lc (own := [("at", 10), ("is_fit", 11)]) (g := (gTup K 2 (gCons (gName 10) (gCons (gName 11) gNil)))) rfl sc_sharing.nd (pi_enum (by rfl) T.enumerate (pa_cons (pv 7) pa_nil)) (blkOk_by (own := [("at", 10), ("is_fit", 11)]) (N := n_sharing) (sc := defScope s_sharing) (by decide +kernel)) (fun _ _ _ _ _ => (pg_tup rfl (pgs_cons (pg_name (i := 10) sc_sharing.nd rfl (Or.inl rfl)) (pgs_cons (pg_name (i := 11) sc_sharing.nd rfl (Or.inl rfl)) pgs_nil)))) (fun _ _ _ _ _ => (pts_one (pt_val (pv 11)))) (fun _ _ _ _ _ => (pv 10))) pa_nil))))))
  (pss_one (ps_ret (pe_tup (pa_cons (pv 2) (pa_cons (pv 3) (pa_cons (pv 4) pa_nil)))))))))), ?_⟩
  walk_at "rd"
  refine ⟨a, lefts, rfl, ha, hl, fun l H1 g1 hgl => ?_⟩
  walk_at "rd"
  refine ⟨b, rights, rfl, RowH.mono hb (Same.t g1), hr2, fun r H2 g2 hgr => ?_⟩
  walk_at "rd"
  intro t hT
  walk_at "rd"
  obtain ⟨xl, hxl, pl⟩ := GrpH.mono hgl g2
  obtain ⟨xr, hxr, pr⟩ := hgr
  have gT := same_new hT (HO.lst [])
  have ll := paired_len pl
  have lr := paired_len pr
  have bl := groups_le lefts
  have br := groups_le rights
  refine ⟨⟨_, SqL.of (gT _ _ hxl)⟩, ?_⟩
  refine for_it walk_list (fun i σ H' => Same H2 H' ∧ (∃ us, H' t = some (.lst us) ∧ Paired (OsT t H') us ((tableOf (groupsOf lefts) (groupsOf rights)).take i)) ∧
      ∃ x y z u v m n, σ = [some (.ref a), some (.ref b), some (.ref l), some (.ref r), some (.ref t), x, y, z, u, v, m, n])
    ⟨gT, ⟨[], upd_same, .nil⟩, _, _, _, _, _, _, _, rfl⟩ (fun i σ H' _ p => SqL.of (p.1 _ _ hxl)) ?_ (fun σ H3 p3 => ?_)
  · rintro i x σ H3 H4 hi ⟨g3, ⟨us, hus, pu⟩, x0, y0, z0, u0, v0, m0, n0, rfl⟩ ⟨rfl, hx⟩
    obtain ⟨c, hc, p, rfl, hp⟩ := paired_get pl hx
    have lu := paired_len pu
    rw [List.length_take] at lu
    refine ⟨p, _, rfl, SqT.of (g3 _ _ hp), rfl, ?_⟩
    walk_at "rd"
    refine ⟨⟨_, SqL.of (g3 _ _ hxr)⟩, ?_⟩
    intro D3 hD3
    refine lc_val walk_list (fun j => some (V.bl (fit c (groupsOf rights) j))) hD3 (sz100 (by omega)) (fun H5 g5 => SqL.of ((g3.trans g5) _ _ hxr)) ?_ ?_
    · rintro j y H5 H6 R R0 hj g5 ⟨rfl, hy⟩ k k0
      obtain ⟨d, hd, p2, rfl, hp2⟩ := paired_get pr hy
      have hp2 := (g3.trans g5) _ _ hp2
      have k := k _ _ rfl (Same.refl _)
      unfold fit at k
      rw [getD_of hd] at k
      refine ⟨p2, _, rfl, SqT.of hp2, rfl, ?_⟩
      walk_at "rd"
      by_cases hb1 : beyond d.1 c.2 = true
      · rw [if_pos hb1]
        rw [hb1, Bool.true_and] at k
        walk_at "rd"
        first | exact k | exact ⟨c.1, d.2, rfl, k⟩
      · rw [if_neg hb1]
        rw [Bool.eq_false_iff.mpr hb1, Bool.false_and] at k
        exact k
    · intro H5 g5 hl5
      rw [fm_map, lr] at hl5
      walk_at "rd"
      have hus5 := g5 _ _ hus
      refine ⟨.inl ⟨rfl, _, SqL.of (hus5)⟩, ?_⟩
      walk_at "rd"
      refine ⟨D3, _, rfl, SqL.of hl5, ?_⟩
      intro D4 hD4
      refine lc_val walk_enum (fun j => if fit c (groupsOf rights) j = true then some (V.int ((j : Nat) : Int)) else none) hD4 (sz100 (by simp; omega)) (fun H6 g6 => SqL.of (g6 _ _ hl5)) ?_ ?_
      · rintro j y H6 H7 R R0 hj g6 ⟨pp, u, v, rfl, hpp, rfl, hu, hv⟩ k k0
        obtain rfl := Option.some.inj hu
        obtain rfl : v = V.bl (fit c (groupsOf rights) j) := by
          have hv2 : ((List.range (groupsOf rights).length).map fun j => V.bl (fit c (groupsOf rights) j))[j]? = some v := hv
          have hj2 : j < (groupsOf rights).length := by simpa using hj
          rw [List.getElem?_map, List.getElem?_range hj2] at hv2
          exact (Option.some.inj hv2).symm
        refine ⟨pp, _, rfl, SqT.of upd_same, rfl, ?_⟩
        walk_at "rd"
        by_cases hf : fit c (groupsOf rights) j = true
        · (refine iteT ?_ ?_; (· exact hf))
          walk_at "rd"
          exact k _ _ (if_pos hf) (same_new hpp _)
        · (refine iteF ?_ ?_; (· exact Bool.eq_false_iff.mpr hf))
          exact k0 _ (if_neg hf) (same_new hpp _)
      · intro H6 g6 hl6
        rw [List.length_map, List.length_range, filter_map_if] at hl6
        walk_at "rd"
        have hus6 := g6 _ _ hus5
        refine ⟨t, us, _, rfl, rfl, hus6, sz100 (by omega), ?_⟩
        have nt : D4 ≠ t := fun e => by rw [e, hus5] at hD4; cases hD4
        refine ⟨Same.mut (g3.trans (g5.trans g6)) hT, ⟨_, upd_same, ?_⟩, _, _, _, _, _, _, _, rfl⟩
        rw [tableOf_at hc]
        refine paired_snoc (paired_mono pu fun _ _ => OsT.mono fun b u hb h => ?_) ⟨D4, rfl, nt, by rw [upd_ne nt]; exact hl6⟩
        rw [upd_ne hb]
        exact (g5.trans g6) _ _ h
  · obtain ⟨g3, ⟨us, hus, pu⟩, x0, y0, z0, u0, v0, m0, n0, rfl⟩ := p3
    walk_at "rd"
    refine ⟨by simp [sizeLine], fun p hp => ?_⟩
    have gp := same_new hp (HO.tup [V.ref l, V.ref r, V.ref t])
    refine q p l r t _ (g1.trans (g2.trans (g3.trans gp))) upd_same ⟨xl, (g3.trans gp) _ _ hxl, paired_mono pl fun _ _ => PairH.mono (Same.t (g3.trans gp))⟩ ⟨xr, (g3.trans gp) _ _ hxr, paired_mono pr fun _ _ => PairH.mono (Same.t (g3.trans gp))⟩ ⟨us, gp _ _ hus, ?_⟩
    rw [List.take_of_length_le (by unfold tableOf; rw [List.length_map]; omega)] at pu
    exact paired_mono pu fun _ _ ⟨p, h1, _, h3⟩ => ⟨p, h1, gp _ _ h3⟩
end
end Kl

/-! ## KlMatch -/
namespace Kl
theorem nodup_le {l : List Nat} {n : Nat} (h : l.Nodup) (hl : ∀ x ∈ l, x < n) : l.length ≤ n := by
  have := h.length_le_of_subset (l₂ := List.range n) fun x hx => List.mem_range.mpr (hl x hx)
  simpa using this
structure AugOk (R L : Nat) (S : List Nat) (P : List (Nat × Nat)) : Prop where
  sn : S.Nodup
  sr : ∀ o ∈ S, o < R
  pn : (P.map (·.1)).Nodup
  pr : ∀ x ∈ P, x.1 < R ∧ x.2 < L
theorem AugOk.seen {R L : Nat} {S : List Nat} {P : List (Nat × Nat)} (a : AugOk R L S P) {o : Nat} (h : o ∉ S) (ho : o < R) : AugOk R L (S ++ [o]) P :=
  ⟨List.nodup_append.mpr ⟨a.sn, List.pairwise_singleton _ _, fun x hx y hy => by
    rw [List.mem_singleton.mp hy]
    exact fun e => h (by rw [← e]; exact hx)⟩, fun x hx => by
    rcases List.mem_append.mp hx with hx | hx
    · exact a.sr x hx
    · rw [List.mem_singleton.mp hx]; exact ho, a.pn, a.pr⟩
theorem putP_keys {P : List (Nat × Nat)} {o a k : Nat} (h : k ∈ (putP P o a).map (·.1)) : k = o ∨ k ∈ P.map (·.1) := by
  induction P with
  | nil => simp [putP] at h; exact .inl h
  | cons x r ih =>
    obtain ⟨o', a'⟩ := x
    unfold putP at h
    by_cases e : o' = o
    · rw [if_pos e] at h
      exact .inr h
    · rw [if_neg e] at h
      rcases List.mem_cons.mp h with h | h
      · exact .inr (by rw [h]; exact List.mem_cons_self)
      · rcases ih h with h | h
        · exact .inl h
        · exact .inr (List.mem_cons_of_mem _ h)
theorem putP_nodup {P : List (Nat × Nat)} {o a : Nat} (h : (P.map (·.1)).Nodup) : ((putP P o a).map (·.1)).Nodup := by
  induction P with
  | nil => exact List.pairwise_singleton _ _
  | cons x r ih =>
    obtain ⟨o', a'⟩ := x
    obtain ⟨h1, h2⟩ := List.nodup_cons.mp h
    unfold putP
    by_cases e : o' = o
    · rw [if_pos e]
      exact h
    · rw [if_neg e]
      refine List.nodup_cons.mpr ⟨fun hm => ?_, ih h2⟩
      rcases putP_keys hm with q | q
      · exact e q
      · exact h1 q
theorem putP_mem {P : List (Nat × Nat)} {o a : Nat} {x : Nat × Nat} (h : x ∈ putP P o a) : x = (o, a) ∨ x ∈ P := by
  induction P with
  | nil => simp [putP] at h; exact .inl h
  | cons y r ih =>
    obtain ⟨o', a'⟩ := y
    unfold putP at h
    by_cases e : o' = o
    · rw [if_pos e] at h
      rcases List.mem_cons.mp h with h | h
      · exact .inl (by rw [h, e])
      · exact .inr (List.mem_cons_of_mem _ h)
    · rw [if_neg e] at h
      rcases List.mem_cons.mp h with h | h
      · exact .inr (by rw [h]; exact List.mem_cons_self)
      · rcases ih h with h | h
        · exact .inl h
        · exact .inr (List.mem_cons_of_mem _ h)
theorem AugOk.put {R L : Nat} {S : List Nat} {P : List (Nat × Nat)} (x : AugOk R L S P) {o a : Nat} (ho : o < R) (ha : a < L) : AugOk R L S (putP P o a) :=
  ⟨x.sn, x.sr, putP_nodup x.pn, fun y hy => by
    rcases putP_mem hy with e | e
    · rw [e]; exact ⟨ho, ha⟩
    · exact x.pr y e⟩
theorem lookP_mem {P : List (Nat × Nat)} {o a : Nat} (h : lookP P o = some a) : (o, a) ∈ P := by
  induction P with
  | nil => cases h
  | cons y r ih =>
    obtain ⟨o', a'⟩ := y
    unfold lookP at h
    by_cases e : o' = o
    · rw [if_pos e] at h
      rw [← Option.some.inj h, e]
      exact List.mem_cons_self
    · rw [if_neg e] at h
      exact List.mem_cons_of_mem _ (ih h)
/-- the indices that a table has -/
def TableOk (T : List (List Nat)) (R : Nat) : Prop := ∀ os ∈ T, ∀ o ∈ os, o < R
theorem TableOk.getD {T : List (List Nat)} {R at_ : Nat} (t : TableOk T R) : ∀ o ∈ T.getD at_ [], o < R := by
  intro o ho
  rw [List.getD_eq_getElem?_getD] at ho
  cases e : T[at_]? with
  | none => rw [e] at ho; cases ho
  | some os => rw [e] at ho; exact t os (List.mem_of_getElem? e) o ho
theorem scan_skip {rec : Nat → List Nat → List (Nat × Nat) → AugR} {at_ o : Nat} {os S : List Nat} {P : List (Nat × Nat)} (h : o ∈ S) : scan rec at_ (o :: os) S P = scan rec at_ os S P := by
  have hs : S.contains o = true := by simpa using h
  conv => lhs; unfold scan
  rw [if_pos hs]
theorem scan_new {rec : Nat → List Nat → List (Nat × Nat) → AugR} {at_ o : Nat} {os S : List Nat} {P : List (Nat × Nat)} (h : o ∉ S) (e : lookP P o = none) : scan rec at_ (o :: os) S P = (true, S ++ [o], putP P o at_) := by
  have hs : ¬ S.contains o = true := by simpa using h
  conv => lhs; unfold scan
  rw [if_neg hs]
  simp only [e]
theorem scan_yes {rec : Nat → List Nat → List (Nat × Nat) → AugR} {at_ o a : Nat} {os S S2 : List Nat} {P P2 : List (Nat × Nat)} (h : o ∉ S) (e : lookP P o = some a) (e2 : rec a (S ++ [o]) P = (true, S2, P2)) : scan rec at_ (o :: os) S P = (true, S2, putP P2 o at_) := by
  have hs : ¬ S.contains o = true := by simpa using h
  conv => lhs; unfold scan
  rw [if_neg hs]
  simp only [e, e2]
theorem scan_no {rec : Nat → List Nat → List (Nat × Nat) → AugR} {at_ o a : Nat} {os S S2 : List Nat} {P P2 : List (Nat × Nat)} (h : o ∉ S) (e : lookP P o = some a) (e2 : rec a (S ++ [o]) P = (false, S2, P2)) : scan rec at_ (o :: os) S P = scan rec at_ os S2 P2 := by
  have hs : ¬ S.contains o = true := by simpa using h
  conv => lhs; unfold scan
  rw [if_neg hs]
  simp only [e, e2]
theorem scan_ok {R L : Nat} {rec : Nat → List Nat → List (Nat × Nat) → AugR} {at_ : Nat} (ha : at_ < L)
    (hrec : ∀ a S P, a < L → AugOk R L S P → AugOk R L (rec a S P).2.1 (rec a S P).2.2) : ∀ (os S : List Nat) (P : List (Nat × Nat)), (∀ o ∈ os, o < R) → AugOk R L S P → AugOk R L (scan rec at_ os S P).2.1 (scan rec at_ os S P).2.2
  | [], S, P, _, ok => ok
  | o :: os, S, P, ho, ok => by
    have h1 := ho o List.mem_cons_self
    have h2 : ∀ o ∈ os, o < R := fun x hx => ho x (List.mem_cons_of_mem _ hx)
    by_cases hn : o ∈ S
    · rw [scan_skip hn]
      exact scan_ok ha hrec os S P h2 ok
    · have ok1 := ok.seen hn h1
      cases e : lookP P o with
      | none => rw [scan_new hn e]; exact ok1.put h1 ha
      | some a =>
        have hal : a < L := (ok.pr _ (lookP_mem e)).2
        have ok2 := hrec a _ _ hal ok1
        cases e2 : rec a (S ++ [o]) P with
        | mk b r2 =>
          obtain ⟨S2, P2⟩ := r2
          rw [e2] at ok2
          cases b with
          | true => rw [scan_yes hn e e2]; exact ok2.put h1 ha
          | false => rw [scan_no hn e e2]; exact scan_ok ha hrec os S2 P2 h2 ok2
theorem aug_ok {R L : Nat} {T : List (List Nat)} (t : TableOk T R) : ∀ (n at_ : Nat) (S : List Nat) (P : List (Nat × Nat)), at_ < L → AugOk R L S P → AugOk R L (aug T n at_ S P).2.1 (aug T n at_ S P).2.2
  | 0, _, _, _, _, ok => ok
  | n + 1, at_, S, P, ha, ok => scan_ok ha (fun a S P h => aug_ok t n a S P h) _ S P t.getD ok
/-- how much is seen only grows -/
theorem scan_len {rec : Nat → List Nat → List (Nat × Nat) → AugR} {at_ : Nat} (hrec : ∀ a S P, S.length ≤ (rec a S P).2.1.length) : ∀ (os S : List Nat) (P : List (Nat × Nat)), S.length ≤ (scan rec at_ os S P).2.1.length
  | [], S, P => Nat.le_refl _
  | o :: os, S, P => by
    by_cases hn : o ∈ S
    · rw [scan_skip hn]
      exact scan_len hrec os S P
    · cases e : lookP P o with
      | none => rw [scan_new hn e]; simp
      | some a =>
        have h := hrec a (S ++ [o]) P
        cases e2 : rec a (S ++ [o]) P with
        | mk b r2 =>
          obtain ⟨S2, P2⟩ := r2
          rw [e2] at h
          simp at h
          cases b with
          | true => rw [scan_yes hn e e2]; show S.length ≤ S2.length; omega
          | false => rw [scan_no hn e e2]; exact Nat.le_trans (m := S2.length) (by omega) (scan_len hrec os S2 P2)
theorem aug_len (T : List (List Nat)) : ∀ (n at_ : Nat) (S : List Nat) (P : List (Nat × Nat)), S.length ≤ (aug T n at_ S P).2.1.length
  | 0, _, _, _ => Nat.le_refl _
  | n + 1, _, S, P => scan_len (aug_len T n) _ S P
theorem partnersUpTo_ok {R : Nat} {T : List (List Nat)} (t : TableOk T R) : ∀ n, n ≤ T.length → AugOk R T.length [] (partnersUpTo T n)
  | 0, _ => ⟨List.Pairwise.nil, fun _ h => (by cases h), List.Pairwise.nil, fun _ h => (by cases h)⟩
  | n + 1, h => by
    have ih := partnersUpTo_ok t n (by omega)
    have := aug_ok t 61 n [] _ h ih
    exact ⟨List.Pairwise.nil, fun _ h => (by cases h), this.pn, this.pr⟩
/-! ### each left one at most once -/
def cnt : List (Nat × Nat) → Nat → Nat
  | [], _ => 0
  | x :: r, v => (if v = x.2 then 1 else 0) + cnt r v
theorem cnt_put_new {P : List (Nat × Nat)} {o a v : Nat} (h : lookP P o = none) : cnt (putP P o a) v = cnt P v + if v = a then 1 else 0 := by
  induction P with
  | nil =>
    unfold putP cnt
    rw [Nat.add_comm]
    rfl
  | cons y r ih =>
    obtain ⟨o', a'⟩ := y
    unfold lookP at h
    by_cases e : o' = o
    · rw [if_pos e] at h; cases h
    · rw [if_neg e] at h
      have ih := ih h
      unfold putP
      rw [if_neg e]
      show (if v = a' then 1 else 0) + cnt (putP r o a) v = (if v = a' then 1 else 0) + cnt r v + _
      rw [ih]
      omega
theorem cnt_put_old {P : List (Nat × Nat)} {o a b v : Nat} (h : lookP P o = some b) : cnt (putP P o a) v + (if v = b then 1 else 0) = cnt P v + if v = a then 1 else 0 := by
  induction P with
  | nil => cases h
  | cons y r ih =>
    obtain ⟨o', a'⟩ := y
    unfold lookP at h
    unfold putP
    by_cases e : o' = o
    · rw [if_pos e] at h ⊢
      have h := Option.some.inj h
      subst h
      show (if v = a then 1 else 0) + cnt r v + _ = (if v = a' then 1 else 0) + cnt r v + _
      omega
    · rw [if_neg e] at h ⊢
      have ih := ih h
      show (if v = a' then 1 else 0) + cnt (putP r o a) v + _ = (if v = a' then 1 else 0) + cnt r v + _
      omega
theorem lookP_put {P : List (Nat × Nat)} {o a k : Nat} : lookP (putP P o a) k = if k = o then some a else lookP P k := by
  induction P with
  | nil =>
    unfold putP lookP
    by_cases e : o = k
    · rw [if_pos e, if_pos e.symm]
    · rw [if_neg e, if_neg (fun z => e z.symm)]
      rfl
  | cons y r ih =>
    obtain ⟨o', a'⟩ := y
    unfold putP
    by_cases e : o' = o
    · rw [if_pos e]
      unfold lookP
      by_cases q : o' = k
      · rw [if_pos q, if_pos (by omega)]
      · rw [if_neg q, if_neg (by omega), if_neg q]
    · rw [if_neg e]
      show (if o' = k then some a' else lookP (putP r o a) k) = if k = o then some a else if o' = k then some a' else lookP r k
      rw [ih]
      by_cases q : o' = k
      · rw [if_pos q, if_neg (by omega), if_pos q]
      · rw [if_neg q, if_neg q]
/-- what a run of the search leaves: the seen stays seen with its partner; each count rises by the one looked for -/
structure AugSays (S : List Nat) (P : List (Nat × Nat)) (a : Nat) (r : AugR) : Prop where
  keep : ∀ o ∈ S, o ∈ r.2.1 ∧ lookP r.2.2 o = lookP P o
  no : r.1 = false → r.2.2 = P
  yes : r.1 = true → ∀ v, cnt r.2.2 v = cnt P v + if v = a then 1 else 0
theorem scan_says {rec : Nat → List Nat → List (Nat × Nat) → AugR} {at_ : Nat} (hrec : ∀ a S P, AugSays S P a (rec a S P)) : ∀ (os S : List Nat) (P : List (Nat × Nat)), AugSays S P at_ (scan rec at_ os S P)
  | [], S, P => ⟨fun o h => ⟨h, rfl⟩, fun _ => rfl, fun e => (by cases e)⟩
  | o :: os, S, P => by
    by_cases hn : o ∈ S
    · rw [scan_skip hn]
      exact scan_says hrec os S P
    · cases e : lookP P o with
      | none =>
        rw [scan_new hn e]
        refine ⟨fun k hk => ⟨List.mem_append_left _ hk, ?_⟩, fun e => (by cases e), fun _ v => cnt_put_new e⟩
        show lookP (putP P o at_) k = _
        rw [lookP_put, if_neg (fun z => hn (by rw [← z]; exact hk))]
      | some a =>
        have h := hrec a (S ++ [o]) P
        cases e2 : rec a (S ++ [o]) P with
        | mk b r2 =>
          obtain ⟨S2, P2⟩ := r2
          rw [e2] at h
          obtain ⟨k1, k2, k3⟩ := h
          cases b with
          | true =>
            have k3 := k3 rfl
            have ho := (k1 o (List.mem_append_right _ List.mem_cons_self)).2
            simp only at ho k3
            rw [scan_yes hn e e2]
            refine ⟨fun k hk => ⟨(k1 k (List.mem_append_left _ hk)).1, ?_⟩, fun e => (by cases e), fun _ v => ?_⟩
            · show lookP (putP P2 o at_) k = _
              rw [lookP_put, if_neg (fun z => hn (by rw [← z]; exact hk))]
              exact (k1 k (List.mem_append_left _ hk)).2
            · show cnt (putP P2 o at_) v = _
              rw [e] at ho
              have c1 := cnt_put_old (a := at_) (v := v) ho
              have c2 := k3 v
              omega
          | false =>
            have k2 := k2 rfl
            simp only at k2
            subst k2
            rw [scan_no hn e e2]
            have s := scan_says (at_ := at_) hrec os S2 P2
            exact ⟨fun k hk => ⟨(s.keep k (k1 k (List.mem_append_left _ hk)).1).1, (s.keep k (k1 k (List.mem_append_left _ hk)).1).2⟩, s.no, s.yes⟩
theorem aug_says (T : List (List Nat)) : ∀ (n at_ : Nat) (S : List Nat) (P : List (Nat × Nat)), AugSays S P at_ (aug T n at_ S P)
  | 0, _, S, P => ⟨fun o h => ⟨h, rfl⟩, fun _ => rfl, fun e => (by cases e)⟩
  | n + 1, _, S, P => scan_says (aug_says T n) _ S P
theorem partners_cnt (T : List (List Nat)) : ∀ n v, cnt (partnersUpTo T n) v ≤ if v < n then 1 else 0
  | 0, v => Nat.le_of_eq rfl
  | n + 1, v => by
    have ih := partners_cnt T n v
    have s := aug_says T 61 n [] (partnersUpTo T n)
    show cnt (aug T 61 n [] (partnersUpTo T n)).2.2 v ≤ _
    cases e : (aug T 61 n [] (partnersUpTo T n)).1 with
    | false =>
      rw [s.no e]
      by_cases h : v < n
      · simp only [h, if_true] at ih
        have h2 : v < n + 1 := by omega
        simp only [h2, if_true]
        exact ih
      · simp only [h, if_false] at ih
        omega
    | true =>
      rw [s.yes e v]
      by_cases h : v < n
      · simp only [h, if_true] at ih
        have h2 : v < n + 1 := by omega
        have h3 : ¬ v = n := by omega
        simp only [h2, h3, if_true, if_false]
        exact ih
      · simp only [h, if_false] at ih
        split <;> split <;> omega
/-- a pair of the matching is in the table -/
def InT (T : List (List Nat)) (P : List (Nat × Nat)) : Prop := ∀ x ∈ P, x.1 ∈ T.getD x.2 []
theorem scan_in {T : List (List Nat)} {rec : Nat → List Nat → List (Nat × Nat) → AugR} {at_ : Nat} (hrec : ∀ a S P, InT T P → InT T (rec a S P).2.2) : ∀ (os S : List Nat) (P : List (Nat × Nat)), (∀ o ∈ os, o ∈ T.getD at_ []) → InT T P → InT T (scan rec at_ os S P).2.2
  | [], S, P, _, h => h
  | o :: os, S, P, ho, h => by
    have h1 := ho o List.mem_cons_self
    have h2 : ∀ o ∈ os, o ∈ T.getD at_ [] := fun x hx => ho x (List.mem_cons_of_mem _ hx)
    have hput : ∀ P2, InT T P2 → InT T (putP P2 o at_) := fun P2 q x hx => by
      rcases putP_mem hx with e | e
      · rw [e]; exact h1
      · exact q x e
    by_cases hn : o ∈ S
    · rw [scan_skip hn]
      exact scan_in hrec os S P h2 h
    · cases e : lookP P o with
      | none => rw [scan_new hn e]; exact hput _ h
      | some a =>
        have q := hrec a (S ++ [o]) P h
        cases e2 : rec a (S ++ [o]) P with
        | mk b r2 =>
          obtain ⟨S2, P2⟩ := r2
          rw [e2] at q
          cases b with
          | true => rw [scan_yes hn e e2]; exact hput _ q
          | false => rw [scan_no hn e e2]; exact scan_in hrec os S2 P2 h2 q
theorem aug_in (T : List (List Nat)) : ∀ (n at_ : Nat) (S : List Nat) (P : List (Nat × Nat)), InT T P → InT T (aug T n at_ S P).2.2
  | 0, _, _, _, h => h
  | n + 1, at_, S, P, h => scan_in (fun a S P => aug_in T n a S P) _ S P (fun _ h => h) h
theorem partners_in (T : List (List Nat)) : ∀ n, InT T (partnersUpTo T n)
  | 0 => fun _ h => by cases h
  | n + 1 => aug_in T 61 n [] _ (partners_in T n)
end Kl

/-! ## D13 -/
namespace Kl
open PySem PySem.Spec PyProof.Rows L2
local macro_rules | `(tactic| walk_at "rd") => `(tactic| repeat (first | refine ⟨_, rfl, ?_⟩ | refine ⟨_, _, rfl, rfl, ?_⟩ | refine ⟨_, _, rfl, ?_⟩ | refine ⟨rfl, ?_⟩ | refine ⟨Or.inl ⟨by decide, by decide⟩, ?_⟩ | refine ⟨Or.inr ⟨by decide, by decide⟩, ?_⟩ | refine ⟨⟨by decide, by decide⟩, ?_⟩ | refine ⟨by decide, ?_⟩ | refine ⟨show (0 : Int) < _ from by decide, ?_⟩))
abbrev kP (x : Nat × Nat) : Key × V := (.inl ((x.1 : Nat) : Int), .int ((x.2 : Nat) : Int))
abbrev kS (o : Nat) : Key × V := (.inl ((o : Nat) : Int), .bl true)
abbrev iK (o : Nat) : Key := .inl ((o : Nat) : Int)
theorem iK_inj {a b : Nat} : iK a = iK b ↔ a = b := ⟨fun e => by
  have e1 : ((a : Nat) : Int) = ((b : Nat) : Int) := Sum.inl.inj e
  omega, fun e => by rw [e]⟩
theorem val_kP (P : List (Nat × Nat)) (o : Nat) : valV (P.map kP) (iK o) = (lookP P o).map fun a => V.int ((a : Nat) : Int) := by
  induction P with
  | nil => rfl
  | cons x r ih =>
    obtain ⟨o', a'⟩ := x
    rw [List.map_cons]
    unfold lookP
    by_cases e : o' = o
    · rw [if_pos e, valV_pos (p := kP (o', a')) (iK_inj.mpr e)]
      rfl
    · rw [if_neg e, valV_neg (p := kP (o', a')) (fun z => e (iK_inj.mp z)), ih]
theorem putP_none {P : List (Nat × Nat)} {o a : Nat} (h : lookP P o = none) : putP P o a = P ++ [(o, a)] := by
  induction P with
  | nil => rfl
  | cons x r ih =>
    obtain ⟨o', a'⟩ := x
    unfold lookP at h
    by_cases e : o' = o
    · rw [if_pos e] at h; cases h
    · rw [if_neg e] at h
      unfold putP
      rw [if_neg e, ih h]
      rfl
theorem putP_some {P : List (Nat × Nat)} {o a b : Nat} (hn : (P.map (·.1)).Nodup) (h : lookP P o = some b) : putP P o a = P.map fun x => if x.1 = o then (x.1, a) else x := by
  induction P with
  | nil => cases h
  | cons x r ih =>
    obtain ⟨o', a'⟩ := x
    obtain ⟨h1, h2⟩ := List.nodup_cons.mp hn
    unfold lookP at h
    unfold putP
    rw [List.map_cons]
    by_cases e : o' = o
    · rw [if_pos e, if_pos e]
      congr 1
      have : r.map (fun x => if x.1 = o then (x.1, a) else x) = r.map id := List.map_congr_left fun x hx => by
        rw [if_neg (fun z => h1 (List.mem_map.mpr ⟨x, hx, z.trans e.symm⟩))]
        rfl
      rw [this, List.map_id]
    · rw [if_neg e] at h
      rw [if_neg e, if_neg e, ih h2 h]
theorem put_kP {P : List (Nat × Nat)} {o a : Nat} (hn : (P.map (·.1)).Nodup) : putK (P.map kP) (iK o) (.int ((a : Nat) : Int)) = (putP P o a).map kP := by
  unfold putK
  rw [valV_any, val_kP]
  cases h : lookP P o with
  | none =>
    rw [if_neg (by simp), putP_none h, List.map_append]
    rfl
  | some b =>
    rw [if_pos (by simp), putP_some hn h, List.map_map, List.map_map]
    refine List.map_congr_left fun x _ => ?_
    show (if iK x.1 = iK o then (iK x.1, V.int ((a : Nat) : Int)) else kP x) = kP (if x.1 = o then (x.1, a) else x)
    by_cases e : x.1 = o
    · rw [if_pos e, if_pos (iK_inj.mpr e)]
    · rw [if_neg e, if_neg (fun z => e (iK_inj.mp z))]
theorem val_kS (S : List Nat) (o : Nat) : valV (S.map kS) (iK o) = if o ∈ S then some (V.bl true) else none := by
  induction S with
  | nil => rfl
  | cons x r ih =>
    rw [List.map_cons]
    by_cases e : x = o
    · rw [valV_pos (p := kS x) (iK_inj.mpr e), if_pos (by rw [e]; exact List.mem_cons_self)]
    · rw [valV_neg (p := kS x) (fun z => e (iK_inj.mp z)), ih]
      by_cases h : o ∈ r
      · rw [if_pos h, if_pos (List.mem_cons_of_mem _ h)]
      · rw [if_neg h, if_neg (fun z => by rcases List.mem_cons.mp z with z | z; exact e z.symm; exact h z)]
theorem put_kS {S : List Nat} {o : Nat} (h : o ∉ S) : putK (S.map kS) (iK o) (.bl true) = (S ++ [o]).map kS := by
  unfold putK
  rw [valV_any, val_kS, if_neg h, if_neg (by simp), List.map_append]
  rfl
/-- all but two stay -/
def SameX (p q : Addr) (H H' : Hp) : Prop := ∀ b u, b ≠ p → b ≠ q → H b = some u → H' b = some u
theorem SameX.refl (p q : Addr) (H : Hp) : SameX p q H H := fun _ _ _ _ h => h
theorem SameX.trans {p q : Addr} {H H1 H2 : Hp} (a : SameX p q H H1) (b : SameX p q H1 H2) : SameX p q H H2 := fun c u h1 h2 h => b c u h1 h2 (a c u h1 h2 h)
theorem SameX.p {p q : Addr} {H H' : Hp} (a : SameX p q H H') (o : HO) : SameX p q H (upd H' p o) := fun c u h1 h2 h => by rw [upd_ne h1]; exact a c u h1 h2 h
theorem SameX.q {p q : Addr} {H H' : Hp} (a : SameX p q H H') (o : HO) : SameX p q H (upd H' q o) := fun c u h1 h2 h => by rw [upd_ne h2]; exact a c u h1 h2 h
/-- lists stay -/
theorem TableH.x {p q : Addr} {H H' : Hp} {a : Addr} {T : List (List Nat)} (h : TableH H a T) (g : SameX p q H H') (hp : ∀ xs, H p ≠ some (.lst xs)) (hq : ∀ xs, H q ≠ some (.lst xs)) : TableH H' a T := by
  have g2 : ∀ b xs, H b = some (.lst xs) → H' b = some (.lst xs) := fun b xs e => g b _ (fun z => hp xs (by rw [← z]; exact e)) (fun z => hq xs (by rw [← z]; exact e)) e
  obtain ⟨xs, h1, h2⟩ := h
  exact ⟨xs, g2 _ _ h1, paired_mono h2 fun _ _ ⟨c, e1, e2⟩ => ⟨c, e1, g2 _ _ e2⟩⟩
theorem dK_notLst {H : Hp} {p : Addr} {ys : List (Key × V)} (h : H p = some (.dK ys)) : ∀ xs, H p ≠ some (.lst xs) := fun xs q => by rw [h] at q; cases q
section
variable {P : Program} {w : World} {K : PySem.W.Frag} {mg : Str → Option Value} {base : Heap} {f : Addr} {fd : FuncData}
abbrev n_augmented : List Str := ["table", "partners", "at", "seen", "other"]
theorem sc_augmented : FnScope n_augmented ["table", "partners", "at", "seen"] (defScope s_augmented) := ⟨rfl, rfl, rfl, by decide +kernel, rfl, by decide +kernel, by decide +kernel⟩
def spAug (n : Nat) : Sp := fun vs H Q _ => ∃ (t pd sd : Addr) (a R : Nat) (T : List (List Nat)) (S : List Nat) (M : List (Nat × Nat)), vs = [.ref t, .ref pd, .int ((a : Nat) : Int), .ref sd] ∧ TableH H t T ∧ TableOk T R ∧ R ≤ 60 ∧ a < T.length ∧
  H pd = some (.dK (M.map kP)) ∧ H sd = some (.dK (S.map kS)) ∧ pd ≠ sd ∧ AugOk R T.length S M ∧ R < S.length + n ∧
  ∀ H', SameX pd sd H H' → H' pd = some (.dK ((aug T n a S M).2.2.map kP)) → H' sd = some (.dK ((aug T n a S M).2.1.map kS)) → Q (.bl (aug T n a S M).1) H'
theorem ok_augmented {k : Nat} (G_augmented : Has P w K mg base k "augmented" ["table", "partners", "at", "seen"] (spAug k)) (F : FnP K "augmented" s_augmented f fd) : FnOk P w K mg base CX0 (k + 1) f fd ["table", "partners", "at", "seen"] (spAug (k + 1)) := by
  refine F.ok sc_augmented (fun vs H Q E h => ?_) (fun cdv A outer s H vs Q E hr h => ?_)
  · obtain ⟨t, pd, sd, a, R, T, S, M, rfl, _⟩ := h
    rfl
  obtain ⟨t, pd, sd, a, R, T, S, M, rfl, hT, tok, hR, hat, hp, hs, ne, ok, hlt, q⟩ := h
  refine ⟨_, (PSs.nox (pss_cons (ps_for PassesOwn.never rfl (pi_list (pe_ix ix_list (pv 0) (pv 2) (fun _ _ => rfl))) (pg_name (i := 4) sc_augmented.nd rfl (Or.inl rfl)) (pss_one (ps_if (pt_cmp (pc_dnotin (hu_of hr) (pv 4) (pv 3))) (pss_cons (ps_dput (hu_of hr) (pv 3) (pv 4) pe_bl rfl)
  (pss_one (ps_if (PW.pt (pw_or (pt_cmp (pc_dnotin (hu_of hr) (pv 4) (pv 1))) (pw_or1 (pt_val (pe_fn G_augmented (hr.mono (Nat.le_refl _)) (pa_cons (pv 0) (pa_cons (pv 1) (pa_cons (pe_dget (hu_of hr) (pv 1) (pv 4) (fun _ _ => rfl)) (pa_cons (pv 3) pa_nil))))))))) (pss_cons (ps_dput (hu_of hr) (pv 1) (pv 4) (pv 2) rfl)
  (pss_one (ps_ret pe_bl))) pss_nil))) pss_nil)))
  (pss_one (ps_ret pe_bl)))), ?_⟩
  obtain ⟨xs, hxs, px⟩ := hT
  obtain ⟨os, hos⟩ := get_ex hat
  obtain ⟨vc, hvc, c, rfl, hc⟩ := paired_at px hos
  have hgd : T.getD a [] = os := by rw [List.getD_eq_getElem?_getD, hos]; rfl
  obtain ⟨r, hr9⟩ : ∃ r, r = aug T (k + 1) a S M := ⟨_, rfl⟩
  rw [← hr9] at q
  have hr9 : scan (aug T k) a os S M = r := by rw [hr9]; show _ = scan (aug T k) a (T.getD a []) S M; rw [hgd]
  have cp : c ≠ pd := fun z => by rw [z, hp] at hc; cases hc
  have cs : c ≠ sd := fun z => by rw [z, hs] at hc; cases hc
  walk_at "rd"
  refine ⟨t, _, _, _, rfl, rfl, SqL.of hxs, at_of (j := a) rfl hvc, ?_⟩
  refine ⟨c, rfl, ⟨_, SqL.of hc⟩, ?_⟩
  refine for_it walk_list (fun i σ H' => SameX pd sd H H' ∧ ∃ (S' : List Nat) (M' : List (Nat × Nat)) (y : Option V), H' pd = some (.dK (M'.map kP)) ∧ H' sd = some (.dK (S'.map kS)) ∧ AugOk R T.length S' M' ∧ R < S'.length + (k + 1) ∧
      scan (aug T k) a (os.drop i) S' M' = r ∧ σ = [some (.ref t), some (.ref pd), some (.int ((a : Nat) : Int)), some (.ref sd), y])
    ⟨SameX.refl _ _ _, S, M, _, hp, hs, ok, hlt, hr9, rfl⟩ (fun i σ H' _ p => SqL.of (p.1 _ _ cp cs hc)) ?_ (fun σ H3 p3 => ?_)
  · rintro i x σ H3 H4 hi ⟨g3, S', M', y0, hp3, hs3, ok3, hl3, inv, rfl⟩ ⟨rfl, hx⟩
    obtain ⟨o, ho, rfl⟩ : ∃ o, os[i]? = some o ∧ x = V.int ((o : Nat) : Int) := by
      rw [List.getElem?_map] at hx
      cases e : os[i]? with
      | none => rw [e] at hx; cases hx
      | some o => rw [e] at hx; exact ⟨o, rfl, (Option.some.inj hx).symm⟩
    have hoR : o < R := tok os (List.mem_of_getElem? hos) o (List.mem_of_getElem? ho)
    have hdr : os.drop i = o :: os.drop (i + 1) := by
      obtain ⟨h1, h2⟩ := List.getElem?_eq_some_iff.mp ho
      rw [List.drop_eq_getElem_cons h1, h2]
    rw [hdr] at inv
    walk_at "rd"
    refine ⟨sd, _, rfl, DGet.k (k := iK o) hs3, ?_⟩
    rw [val_kS]
    by_cases hin : o ∈ S'
    · rw [if_pos hin]
      walk_at "rd"
      rw [scan_skip hin] at inv
      exact ⟨g3, S', M', _, hp3, hs3, ok3, hl3, inv, rfl⟩
    · rw [if_neg hin]
      have hSl := nodup_le ok3.sn ok3.sr
      have ok4 := ok3.seen hin hoR
      have hSl4 := nodup_le ok4.sn ok4.sr
      have hMl : M'.length ≤ R := by
        have := nodup_le ok3.pn (n := R) fun x hx => by
          obtain ⟨z, hz, rfl⟩ := List.mem_map.mp hx
          exact (ok3.pr z hz).1
        simpa using this
      walk_at "rd"
      refine ⟨sd, _, rfl, .inl ⟨_, iK o, hs3, rfl, by rw [List.length_map]; exact sz100 (by omega), rfl⟩, ?_⟩
      rw [put_kS hin]
      have g5 := SameX.q g3 (HO.dK ((S' ++ [o]).map kS))
      have hp5 : (upd H4 sd (HO.dK ((S' ++ [o]).map kS))) pd = some (.dK (M'.map kP)) := by rw [upd_ne ne]; exact hp3
      have hs5 : (upd H4 sd (HO.dK ((S' ++ [o]).map kS))) sd = some (.dK ((S' ++ [o]).map kS)) := upd_same
      generalize upd H4 sd (HO.dK ((S' ++ [o]).map kS)) = H5 at g5 hp5 hs5 ⊢
      walk_at "rd"
      refine ⟨pd, _, rfl, DGet.k (k := iK o) hp5, ?_⟩
      rw [val_kP]
      cases hlo : lookP M' o with
      | none =>
        walk_at "rd"
        refine ⟨pd, _, rfl, .inl ⟨_, iK o, hp5, rfl, by rw [List.length_map]; exact sz100 (by omega), rfl⟩, ?_⟩
        rw [put_kP ok4.pn]
        walk_at "rd"
        rw [scan_new hin hlo] at inv
        subst inv
        exact q _ (SameX.p g5 _) upd_same (by rw [upd_ne (Ne.symm ne)]; exact hs5)
      | some b =>
        walk_at "rd"
        refine ⟨pd, V.int ((b : Nat) : Int), rfl, ?_, ?_⟩
        · have := DGet.k (k := iK o) hp5
          rw [val_kP, hlo] at this
          exact this
        walk_at "rd"
        refine ⟨t, pd, sd, b, R, T, S' ++ [o], M', by simp, TableH.x ⟨xs, hxs, px⟩ g5 (dK_notLst hp) (dK_notLst hs), tok, hR, (ok3.pr _ (lookP_mem hlo)).2, hp5, hs5, ne, ok4, by rw [List.length_append, List.length_singleton]; omega, fun H6 g6 hp6 hs6 => ?_⟩
        have ok6 := aug_ok tok k b (S' ++ [o]) M' (ok3.pr _ (lookP_mem hlo)).2 ok4
        have ln6 := aug_len T k b (S' ++ [o]) M'
        have g36 := g5.trans g6
        cases e2 : aug T k b (S' ++ [o]) M' with
        | mk bb r2 =>
          obtain ⟨S2, M2⟩ := r2
          rw [e2] at hp6 hs6 ok6 ln6
          have hM2 : M2.length ≤ R := by
            have := nodup_le ok6.pn (n := R) fun x hx => by
              obtain ⟨z, hz, rfl⟩ := List.mem_map.mp hx
              exact (ok6.pr z hz).1
            simpa using this
          cases bb with
          | true =>
            walk_at "rd"
            refine ⟨pd, _, rfl, .inl ⟨_, iK o, hp6, rfl, by rw [List.length_map]; exact sz100 (by show M2.length ≤ 100; omega), rfl⟩, ?_⟩
            rw [put_kP ok6.pn]
            walk_at "rd"
            rw [scan_yes hin hlo e2] at inv
            subst inv
            exact q _ (SameX.p g36 _) upd_same (by rw [upd_ne (Ne.symm ne)]; exact hs6)
          | false =>
            walk_at "rd"
            rw [scan_no hin hlo e2] at inv
            have : (S' ++ [o]).length ≤ S2.length := ln6
            rw [List.length_append, List.length_singleton] at this
            exact ⟨g36, S2, M2, _, hp6, hs6, ok6, by omega, inv, rfl⟩
  · obtain ⟨g3, S', M', y0, hp3, hs3, ok3, hl3, inv, rfl⟩ := p3
    walk_at "rd"
    rw [List.length_map, List.drop_eq_nil_of_le (Nat.le_refl _)] at inv
    subst inv
    exact q _ g3 hp3 hs3
/-- at any depth -/
theorem has_augmented (hm : mg "augmented" = some (.ref f)) (hk : PySem.W.keepIn K (.ref f) = true) (hb : Binds K fd ["table", "partners", "at", "seen"] []) (F : FnP K "augmented" s_augmented f fd) : ∀ k, Has P w K mg base k "augmented" ["table", "partners", "at", "seen"] (spAug k)
  | 0 => ⟨f, fd, ⟨fun vs H Q E h => by
      obtain ⟨t, pd, sd, a, R, T, S, M, rfl, _⟩ := h
      rfl, fun A outer s H args us vs Q E _ _ _ _ h => by
      obtain ⟨t, pd, sd, a, R, T, S, M, rfl, _, _, _, _, _, _, _, ok, hlt, _⟩ := h
      have := nodup_le ok.sn ok.sr
      omega⟩, hm, hk, hb⟩
  | k + 1 => ⟨f, fd, ok_augmented (has_augmented hm hk hb F k) F, hm, hk, hb⟩
end
end Kl

/-! ## D14 -/
namespace Kl
open PySem PySem.Spec PyProof.Rows L2
local macro_rules | `(tactic| walk_at "rd") => `(tactic| repeat (first | refine ⟨_, rfl, ?_⟩ | refine ⟨_, _, rfl, rfl, ?_⟩ | refine ⟨_, _, rfl, ?_⟩ | refine ⟨rfl, ?_⟩ | refine ⟨Or.inl ⟨by decide, by decide⟩, ?_⟩ | refine ⟨Or.inr ⟨by decide, by decide⟩, ?_⟩ | refine ⟨⟨by decide, by decide⟩, ?_⟩ | refine ⟨by decide, ?_⟩ | refine ⟨show (0 : Int) < _ from by decide, ?_⟩))
theorem tableOf_ok (left right : Grp) : TableOk (tableOf left right) right.length := by
  intro os hos o ho
  unfold tableOf at hos
  obtain ⟨l, _, rfl⟩ := List.mem_map.mp hos
  unfold fitsAt at ho
  exact List.mem_range.mp (List.mem_filter.mp ho).1
theorem tableOf_len (left right : Grp) : (tableOf left right).length = left.length := by simp [tableOf]
theorem partners_le {T : List (List Nat)} {R : Nat} (t : TableOk T R) : (partnersOf T).length ≤ R := by
  have ok := partnersUpTo_ok t T.length (Nat.le_refl _)
  have := nodup_le ok.pn (n := R) fun x hx => by
    obtain ⟨z, hz, rfl⟩ := List.mem_map.mp hx
    exact (ok.pr z hz).1
  rw [List.length_map] at this
  exact this
section
variable {P : Program} {w : World} {K : PySem.W.Frag} {mg : Str → Option Value} {base : Heap} {f : Addr} {fd : FuncData}
abbrev n_partners_of : List Str := ["table", "found", "at"]
theorem sc_partners_of : FnScope n_partners_of ["table"] (defScope s_partners_of) := ⟨rfl, rfl, rfl, by decide +kernel, rfl, by decide +kernel, by decide +kernel⟩
def spPartnersOf : Sp := fun vs H Q _ => ∃ (t : Addr) (R : Nat) (T : List (List Nat)), vs = [.ref t] ∧ TableH H t T ∧ TableOk T R ∧ R ≤ 60 ∧ T.length ≤ 60 ∧
  ∀ p H', Same H H' → H' p = some (.dK ((partnersOf T).map kP)) → Q (.ref p) H'
theorem ok_partners_of (T : Bt mg) (G_augmented : Has P w K mg base 61 "augmented" ["table", "partners", "at", "seen"] (spAug 61)) (F : FnP K "partners_of" s_partners_of f fd) : FnOk P w K mg base CX0 62 f fd ["table"] spPartnersOf := by
  refine F.ok sc_partners_of (fun vs H Q E h => ?_) (fun cdv A outer s H vs Q E hr h => ?_)
  · obtain ⟨t, R, TT, rfl, hT, tok, hR, hl, q⟩ := h
    rfl
  obtain ⟨t, R, TT, rfl, hT, tok, hR, hl, q⟩ := h
  refine ⟨_, (PSs.nox (pss_cons (ps_set (i := 1) sc_partners_of.nd rfl (Or.inl rfl) pe_dnewK)
  (pss_cons (ps_for PassesOwn.never rfl (pi_range1 (by rfl) T.range (pa_cons (pe_callB call_len_seq (by rfl) T.len (by decide +kernel) (pa_cons (pv 0) pa_nil)) pa_nil)) (pg_name (i := 2) sc_partners_of.nd rfl (Or.inl rfl)) (pss_one (ps_expr (pe_fn G_augmented (hr.mono (by decide)) (pa_cons (pv 0) (pa_cons (pv 1) (pa_cons (pv 2) (pa_cons pe_dnewK pa_nil))))))))
  (pss_one (ps_ret (pv 1)))))), ?_⟩
  walk_at "rd"
  intro pd hpd
  walk_at "rd"
  obtain ⟨xs, hxs, px⟩ := id hT
  have lx := paired_len px
  refine ⟨t, _, rfl, .inl (SqL.of (same_new hpd _ _ _ hxs)), ?_⟩
  rw [lx]
  walk_at "rd"
  refine ⟨by omega, by omega, ?_⟩
  rw [show ((TT.length : Nat) : Int).toNat = TT.length by omega]
  refine for_it walk_range (fun i σ H' => Same H H' ∧ H' pd = some (.dK ((partnersUpTo TT i).map kP)) ∧ ∃ y, σ = [some (.ref t), some (.ref pd), y]) ⟨same_new hpd _, upd_same, _, rfl⟩ (fun _ _ _ _ _ => trivial) ?_ (fun σ H3 p3 => ?_)
  · rintro i x σ H3 H4 hi ⟨g3, hp3, y0, rfl⟩ ⟨rfl, rfl⟩
    walk_at "rd"
    intro sd hsd
    walk_at "rd"
    have ne := ne_of_none hp3 hsd
    have ok := partnersUpTo_ok tok i (by omega)
    have g5 := g3.trans (same_new hsd (HO.dK []))
    refine ⟨t, pd, sd, i, R, TT, [], partnersUpTo TT i, by simp, TableH.mono hT g5, tok, hR, hi, same_new hsd _ _ _ hp3, upd_same, ne, ok, by simp; omega, fun H6 g6 hp6 hs6 => ?_⟩
    refine ⟨fun b u hb => g6 b u (fun z => ?_) (fun z => ?_) (g5 b u hb), hp6, _, rfl⟩
    · rw [z, hpd] at hb
      cases hb
    · have := g3 _ _ hb
      rw [z, hsd] at this
      cases this
  · obtain ⟨g3, hp3, y0, rfl⟩ := p3
    walk_at "rd"
    exact q pd _ g3 hp3
abbrev n_kinds_of : List Str := ["lefts", "rights", "left", "right", "table"]
theorem sc_kinds_of : FnScope n_kinds_of ["lefts", "rights"] (defScope s_kinds_of) := ⟨rfl, rfl, rfl, by decide +kernel, rfl, by decide +kernel, by decide +kernel⟩
def spKindsOf : Sp := fun vs H Q _ => ∃ (a b : Addr) (lefts rights : Row), vs = [.ref a, .ref b] ∧ RowH H a lefts ∧ RowH H b rights ∧ lefts.length < 60 ∧ rights.length < 60 ∧
  ∀ p l r m H', Same H H' → H' p = some (.tup [.ref l, .ref r, .ref m]) → GrpH H' l (groupsOf lefts) → GrpH H' r (groupsOf rights) → H' m = some (.dK ((partnersOf (tableOf (groupsOf lefts) (groupsOf rights))).map kP)) → Q (.ref p) H'
theorem ok_kinds_of (G_sharing : Has P w K mg base 2 "sharing" ["lefts", "rights"] spSharing) (G_partners_of : Has P w K mg base 62 "partners_of" ["table"] spPartnersOf) (F : FnP K "kinds_of" s_kinds_of f fd) : FnOk P w K mg base CX0 63 f fd ["lefts", "rights"] spKindsOf := by
  refine F.ok sc_kinds_of (fun vs H Q E h => ?_) (fun cdv A outer s H vs Q E hr h => ?_)
  · obtain ⟨a, b, lefts, rights, rfl, ha, hb, hl, hr2, q⟩ := h
    rfl
  obtain ⟨a, b, lefts, rights, rfl, ha, hb, hl, hr2, q⟩ := h
  refine ⟨_, (pss_cons (ps_asg (pe_fn G_sharing (hr.mono (by decide)) (pa_cons (pv 0) (pa_cons (pv 1) pa_nil))) (pg_tup rfl (pgs_cons (pg_name (i := 2) sc_kinds_of.nd rfl (Or.inl rfl)) (pgs_cons (pg_name (i := 3) sc_kinds_of.nd rfl (Or.inl rfl)) (pgs_cons (pg_name (i := 4) sc_kinds_of.nd rfl (Or.inl rfl)) pgs_nil)))))
  (pss_one (ps_ret (pe_tup (pa_cons (pv 2) (pa_cons (pv 3) (pa_cons (pe_fn G_partners_of (hr.mono (by decide)) (pa_cons (pv 4) pa_nil)) pa_nil))))))), ?_⟩
  walk_at "rd"
  refine ⟨a, b, lefts, rights, rfl, ha, hb, hl, hr2, fun p l r t H1 g1 hp hgl hgr ht => ?_⟩
  walk_at "rd"
  refine ⟨p, _, rfl, SqT.of hp, rfl, ?_⟩
  walk_at "rd"
  have bl := groups_le lefts
  have br := groups_le rights
  refine ⟨t, _, _, rfl, ht, tableOf_ok _ _, by omega, by rw [tableOf_len]; omega, fun m H2 g2 hm => ?_⟩
  walk_at "rd"
  refine ⟨by simp [sizeLine], fun p8 hp8 => ?_⟩
  have g3 := same_new hp8 (HO.tup [V.ref l, V.ref r, V.ref m])
  exact q p8 l r m _ (g1.trans (g2.trans g3)) upd_same (GrpH.mono hgl (g2.trans g3)) (GrpH.mono hgr (g2.trans g3)) (g3 _ _ hm)
abbrev n_number_for : List Str := ["lefts", "rights", "left", "right", "partners"]
theorem sc_number_for : FnScope n_number_for ["lefts", "rights"] (defScope s_number_for) := ⟨rfl, rfl, rfl, by decide +kernel, rfl, by decide +kernel, by decide +kernel⟩
def spNumberFor : Sp := fun vs H Q _ => ∃ (a b : Addr) (lefts rights : Row), vs = [.ref a, .ref b] ∧ RowH H a lefts ∧ RowH H b rights ∧ lefts.length < 60 ∧ rights.length < 60 ∧
  ∀ H', Same H H' → Q (.int (numberFor lefts rights : Nat)) H'
theorem ok_number_for (T : Bt mg) (G_kinds_of : Has P w K mg base 63 "kinds_of" ["lefts", "rights"] spKindsOf) (F : FnP K "number_for" s_number_for f fd) : FnOk P w K mg base CX0 64 f fd ["lefts", "rights"] spNumberFor := by
  refine F.ok sc_number_for (fun vs H Q E h => ?_) (fun cdv A outer s H vs Q E hr h => ?_)
  · obtain ⟨a, b, lefts, rights, rfl, ha, hb, hl, hr2, q⟩ := h
    rfl
  obtain ⟨a, b, lefts, rights, rfl, ha, hb, hl, hr2, q⟩ := h
  refine ⟨_, (pss_cons (ps_asg (pe_fn G_kinds_of (hr.mono (by decide)) (pa_cons (pv 0) (pa_cons (pv 1) pa_nil))) (pg_tup rfl (pgs_cons (pg_name (i := 2) sc_number_for.nd rfl (Or.inl rfl)) (pgs_cons (pg_name (i := 3) sc_number_for.nd rfl (Or.inl rfl)) (pgs_cons (pg_name (i := 4) sc_number_for.nd rfl (Or.inl rfl)) pgs_nil)))))
  (pss_one (ps_ret (pe_op op_sub (pe_op op_add (pe_callB call_len_seq (by rfl) T.len (by decide +kernel) (pa_cons (pv 2) pa_nil)) (pe_callB call_len_seq (by rfl) T.len (by decide +kernel) (pa_cons (pv 3) pa_nil))) (pe_callB call_lenD (by rfl) T.len (by decide +kernel) (pa_cons (pv 4) pa_nil)))))), ?_⟩
  walk_at "rd"
  refine ⟨a, b, lefts, rights, rfl, ha, hb, hl, hr2, fun p l r m H1 g1 hp hgl hgr hm => ?_⟩
  walk_at "rd"
  refine ⟨p, _, rfl, SqT.of hp, rfl, ?_⟩
  obtain ⟨xl, hxl, pl⟩ := hgl
  obtain ⟨xr, hxr, pr⟩ := hgr
  have ll := paired_len pl
  have lr := paired_len pr
  have lp := partners_le (tableOf_ok (groupsOf lefts) (groupsOf rights))
  walk_at "rd"
  refine ⟨l, _, rfl, .inl (SqL.of hxl), ?_⟩
  walk_at "rd"
  refine ⟨r, _, rfl, .inl (SqL.of hxr), ?_⟩
  walk_at "rd"
  refine ⟨m, _, rfl, hm, ?_⟩
  have e : (((xl.length : Nat) : Int) + ((xr.length : Nat) : Int)) - (((partnersOf (tableOf (groupsOf lefts) (groupsOf rights))).map kP).length : Int) = (numberFor lefts rights : Nat) := by
    rw [List.length_map, ll, lr]
    unfold numberFor
    omega
  walk_at "rd"
  show Q (V.int ((((xl.length : Nat) : Int) + ((xr.length : Nat) : Int)) - (((partnersOf (tableOf (groupsOf lefts) (groupsOf rights))).map kP).length : Int))) H1
  rw [e]
  exact q _ g1
abbrev n_least_kinds : List Str := ["lefts", "rights"]
theorem sc_least_kinds : FnScope n_least_kinds ["lefts", "rights"] (defScope s_least_kinds) := ⟨rfl, rfl, rfl, by decide +kernel, rfl, by decide +kernel, by decide +kernel⟩
def spLeastKinds : Sp := fun vs H Q _ => ∃ (a b : Addr) (lefts rights : Row), vs = [.ref a, .ref b] ∧ RowH H a lefts ∧ RowH H b rights ∧ RowsOk lefts rights ∧ ∀ H', Same H H' → Q (.int (numberFor lefts rights : Nat)) H'
theorem ok_least_kinds (G_need_rows : Has P w K mg base 4 "need_rows" ["lefts", "rights"] spNeedRows) (G_number_for : Has P w K mg base 64 "number_for" ["lefts", "rights"] spNumberFor) (F : FnP K "least_kinds" s_least_kinds f fd) : FnOk P w K mg base CX0 65 f fd ["lefts", "rights"] spLeastKinds := by
  refine F.ok sc_least_kinds (fun vs H Q E h => ?_) (fun cdv A outer s H vs Q E hr h => ?_)
  · obtain ⟨a, b, lefts, rights, rfl, ha, hb, ok, q⟩ := h
    rfl
  obtain ⟨a, b, lefts, rights, rfl, ha, hb, ok, q⟩ := h
  refine ⟨_, (pss_cons (ps_expr (pe_fn G_need_rows (hr.mono (by decide)) (pa_cons (pv 0) (pa_cons (pv 1) pa_nil))))
  (pss_one (ps_ret (pe_fn G_number_for (hr.mono (by decide)) (pa_cons (pv 0) (pa_cons (pv 1) pa_nil)))))), ?_⟩
  walk_at "rd"
  refine ⟨a, b, lefts, rights, rfl, ha, hb, ok, fun H1 g1 => ?_⟩
  walk_at "rd"
  have := ok.sum
  exact ⟨a, b, lefts, rights, rfl, RowH.mono ha (Same.t g1), RowH.mono hb (Same.t g1), by omega, by omega, fun H2 g2 => q _ (g1.trans g2)⟩
abbrev n_region_kinds : List Str := ["region", "lefts", "rights"]
theorem sc_region_kinds : FnScope n_region_kinds ["region"] (defScope s_region_kinds) := ⟨rfl, rfl, rfl, by decide +kernel, rfl, by decide +kernel, by decide +kernel⟩
def spRegionKinds : Sp := fun vs H Q _ => ∃ (a : Addr) (g : Reg), vs = [.ref a] ∧ RegH H a g ∧ RegOk g 60 59 ∧ ∀ H', Same H H' → Q (.int (numberFor ((leftsOf g).map some) ((rightsOf g).map some) : Nat)) H'
theorem ok_region_kinds (G_need_region : Has P w K mg base 4 "need_region" ["value"] spNeedRegion) (G_rows_for : Has P w K mg base 2 "rows_for" ["region"] spRowsFor) (G_number_for : Has P w K mg base 64 "number_for" ["lefts", "rights"] spNumberFor) (F : FnP K "region_kinds" s_region_kinds f fd) : FnOk P w K mg base CX0 66 f fd ["region"] spRegionKinds := by
  refine F.ok sc_region_kinds (fun vs H Q E h => ?_) (fun cdv A outer s H vs Q E hr h => ?_)
  · obtain ⟨a, g, rfl, hg, ok, q⟩ := h
    rfl
  obtain ⟨a, g, rfl, hg, ok, q⟩ := h
  refine ⟨_, (pss_cons (ps_expr (pe_fn G_need_region (hr.mono (by decide)) (pa_cons (pv 0) pa_nil)))
  (pss_cons (ps_asg (pe_fn G_rows_for (hr.mono (by decide)) (pa_cons (pv 0) pa_nil)) (pg_tup rfl (pgs_cons (pg_name (i := 1) sc_region_kinds.nd rfl (Or.inl rfl)) (pgs_cons (pg_name (i := 2) sc_region_kinds.nd rfl (Or.inl rfl)) pgs_nil))))
  (pss_one (ps_ret (pe_fn G_number_for (hr.mono (by decide)) (pa_cons (pv 1) (pa_cons (pv 2) pa_nil))))))), ?_⟩
  walk_at "rd"
  refine ⟨a, g, rfl, hg, ok, fun H1 g1 => ?_⟩
  walk_at "rd"
  refine ⟨a, g, rfl, RegH.mono hg (Same.t g1), ok, fun p l m H2 g2 hp hl hm => ?_⟩
  walk_at "rd"
  refine ⟨p, _, rfl, SqT.of hp, rfl, ?_⟩
  walk_at "rd"
  have := ok.wide
  have := ok.pos
  have hr59 : rightOf g ≤ 59 := (ok.col (g.length - 1) (by omega)).2
  exact ⟨l, m, _, _, rfl, hl, hm, by rw [List.length_map, lefts_len]; omega, by rw [List.length_map, rights_len]; omega, fun H3 g3 => q _ (g1.trans (g2.trans g3))⟩
end
end Kl

/-! ## KlTold -/
namespace Kl
theorem putG_iff {v p u q : Nat} {G : List (Nat × Nat)} (h : Asc G) : (u, q) ∈ putG v p G ↔ (u = v ∧ q = p) ∨ (u ≠ v ∧ (u, q) ∈ G) := by
  by_cases hv : ∃ w, (v, w) ∈ G
  · rw [putG_old h hv, List.mem_map]
    constructor
    · rintro ⟨⟨a, b⟩, hm, e⟩
      by_cases ha : a = v
      · rw [if_pos ha] at e
        cases e
        exact .inl ⟨ha, rfl⟩
      · rw [if_neg ha] at e
        cases e
        exact .inr ⟨ha, hm⟩
    · rintro (⟨rfl, rfl⟩ | ⟨hu, hm⟩)
      · obtain ⟨w, hw⟩ := hv
        exact ⟨_, hw, by rw [if_pos rfl]⟩
      · exact ⟨_, hm, by rw [if_neg hu]⟩
  · rw [(putG_new fun w hw => hv ⟨w, hw⟩).mem_iff, List.mem_append, List.mem_singleton]
    constructor
    · rintro (hm | e)
      · refine .inr ⟨fun e => hv ⟨q, by rw [← e]; exact hm⟩, hm⟩
      · cases e
        exact .inl ⟨rfl, rfl⟩
    · rintro (⟨rfl, rfl⟩ | ⟨_, hm⟩)
      · exact .inr rfl
      · exact .inl hm
/-- the groups of the first places -/
structure FinOk (pre : Row) (G : List (Nat × Nat)) : Prop where
  mem : ∀ v p, (v, p) ∈ G → v ≠ 0 ∧ pre[p]? = some (some v) ∧ ∀ x, pre[x]? = some (some v) → x ≤ p
  all : ∀ v, v ≠ 0 → some v ∈ pre → ∃ p, (v, p) ∈ G
theorem at_snoc {α : Type} {pre : List α} {o u : α} {x : Nat} (h : (pre ++ [o])[x]? = some u) : (x < pre.length ∧ pre[x]? = some u) ∨ (x = pre.length ∧ u = o) := by
  by_cases hx : x < pre.length
  · rw [List.getElem?_append_left hx] at h
    exact .inl ⟨hx, h⟩
  · rw [List.getElem?_append_right (by omega)] at h
    have hl := (List.getElem?_eq_some_iff.mp h).1
    simp at hl
    have e : x = pre.length := by omega
    subst e
    simp at h
    exact .inr ⟨rfl, h.symm⟩
theorem finOk_skip {pre : Row} {G : List (Nat × Nat)} (h : FinOk pre G) {o : Option Nat} (ho : ∀ v, v ≠ 0 → o ≠ some v) : FinOk (pre ++ [o]) G := by
  refine ⟨fun v p hm => ?_, fun v hv hm => ?_⟩
  · obtain ⟨h1, h2, h3⟩ := h.mem v p hm
    refine ⟨h1, ?_, fun x hx => ?_⟩
    · rw [List.getElem?_append_left (List.getElem?_eq_some_iff.mp h2).1]
      exact h2
    · rcases at_snoc hx with ⟨_, e⟩ | ⟨_, e⟩
      · exact h3 x e
      · exact absurd e.symm (ho v h1)
  · rcases List.mem_append.mp hm with e | e
    · exact h.all v hv e
    · exact absurd (List.mem_singleton.mp e).symm (ho v hv)
theorem finOk_put {pre : Row} {G : List (Nat × Nat)} (h : FinOk pre G) (ha : Asc G) {v : Nat} (hv : v ≠ 0) : FinOk (pre ++ [some v]) (putG v pre.length G) := by
  refine ⟨fun u p hm => ?_, fun u hu hm => ?_⟩
  · rcases (putG_iff ha).mp hm with ⟨rfl, rfl⟩ | ⟨hne, hm⟩
    · refine ⟨hv, by simp, fun x hx => ?_⟩
      rcases at_snoc hx with ⟨e, _⟩ | ⟨e, _⟩ <;> omega
    · obtain ⟨h1, h2, h3⟩ := h.mem u p hm
      refine ⟨h1, ?_, fun x hx => ?_⟩
      · rw [List.getElem?_append_left (List.getElem?_eq_some_iff.mp h2).1]
        exact h2
      · rcases at_snoc hx with ⟨_, e⟩ | ⟨_, e⟩
        · exact h3 x e
        · exact absurd (Option.some.inj e) hne
  · by_cases e : u = v
    · exact ⟨_, (putG_iff ha).mpr (.inl ⟨e, rfl⟩)⟩
    · rcases List.mem_append.mp hm with q | q
      · obtain ⟨p, hp⟩ := h.all u hu q
        exact ⟨p, (putG_iff ha).mpr (.inr ⟨e, hp⟩)⟩
      · exact absurd (Option.some.inj (List.mem_singleton.mp q)) e
theorem finG_ok : ∀ (r pre : Row) (G : List (Nat × Nat)), Asc G → FinOk pre G → FinOk (pre ++ r) (finG r pre.length G)
  | [], pre, G, _, h => by rw [List.append_nil]; exact h
  | none :: r, pre, G, ha, h => by
    have ih := finG_ok r (pre ++ [none]) G ha (finOk_skip h fun v _ e => by cases e)
    rw [List.append_assoc, List.length_append] at ih
    exact ih
  | some v :: r, pre, G, ha, h => by
    unfold finG
    by_cases hv : v = 0
    · rw [if_pos hv]
      have ih := finG_ok r (pre ++ [some v]) G ha (finOk_skip h fun u hu e => hu (by rw [← Option.some.inj e]; exact hv))
      rw [List.append_assoc, List.length_append] at ih
      exact ih
    · rw [if_neg hv]
      have ih := finG_ok r (pre ++ [some v]) _ (putG_asc (v := v) (p := pre.length) ha) (finOk_put h ha hv)
      rw [List.append_assoc, List.length_append] at ih
      exact ih
theorem noneG_some : ∀ (r : List Nat) (i : Nat) (acc : Option Nat), noneG (r.map some) i acc = acc
  | [], _, _ => rfl
  | _ :: r, i, acc => noneG_some r (i + 1) acc
/-- the groups of a row of numbers -/
structure GrpOk (row : List Nat) (g : Grp) : Prop where
  mem : ∀ c ∈ g, ∃ v p, c = (some v, p) ∧ v ≠ 0 ∧ v ∈ row ∧ ∀ x, row[x]? = some v → x ≤ p
  all : ∀ v ∈ row, v ≠ 0 → ∃ p, (some v, p) ∈ g
  len : g.length ≤ row.length
theorem finG_le : ∀ (r : Row) (i : Nat) (acc : List (Nat × Nat)), (finG r i acc).length ≤ acc.length + r.length
  | [], _, _ => Nat.le_refl _
  | none :: r, i, acc => by
    have := finG_le r (i + 1) acc
    unfold finG
    simp only [List.length_cons]
    omega
  | some v :: r, i, acc => by
    have h1 : ∀ l : List (Nat × Nat), (putG v i l).length ≤ l.length + 1 := by
      intro l
      induction l with
      | nil => exact Nat.le_refl _
      | cons x r ih =>
        obtain ⟨u, q⟩ := x
        unfold putG
        split
        · simp
        · split
          · simp
          · simpa using ih
    have h2 := h1 acc
    unfold finG
    simp only [List.length_cons]
    split
    · have := finG_le r (i + 1) acc
      omega
    · have := finG_le r (i + 1) (putG v i acc)
      omega
theorem groups_ok (row : List Nat) : GrpOk row (groupsOf (row.map some)) := by
  have h := finG_ok (row.map some) [] [] List.Pairwise.nil ⟨fun _ _ h => (by cases h), fun _ _ h => (by cases h)⟩
  rw [List.nil_append] at h
  have e : groupsOf (row.map some) = (finG (row.map some) 0 []).map fun p => (some p.1, p.2) := by
    unfold groupsOf
    rw [noneG_some]
    simp
  have at_ : ∀ {x v : Nat}, (row.map some)[x]? = some (some v) ↔ row[x]? = some v := by
    intro x v
    rw [List.getElem?_map]
    cases row[x]? <;> simp
  rw [e]
  refine ⟨fun c hc => ?_, fun v hv h0 => ?_, ?_⟩
  · obtain ⟨⟨v, p⟩, hm, rfl⟩ := List.mem_map.mp hc
    obtain ⟨h1, h2, h3⟩ := h.mem v p hm
    exact ⟨v, p, rfl, h1, List.mem_of_getElem? (at_.mp h2), fun x hx => h3 x (at_.mpr hx)⟩
  · obtain ⟨p, hp⟩ := h.all v h0 (List.mem_map.mpr ⟨v, hv, rfl⟩)
    exact ⟨p, List.mem_map.mpr ⟨_, hp, rfl⟩⟩
  · have := finG_le (row.map some) 0 []
    simp at this ⊢
    exact this
/-! ### the kinds of a lane -/
def valAt (g : Grp) (i : Nat) : Nat := ((g.getD i (none, 0)).1).getD 0
def toldOf (left right : Grp) (qs P : List (Nat × Nat)) : List (Nat × Nat) :=
  qs.map (fun q => (valAt right q.1, valAt left q.2)) ++ ((List.range left.length).filter fun a => !(P.map (·.2)).contains a).map (fun a => (0, valAt left a)) ++
    ((List.range right.length).filter fun o => (lookP P o).isNone).map fun o => (valAt right o, 0)
structure ToldOk (lefts rights : List Nat) (told : List (Nat × Nat)) : Prop where
  nz : ∀ c ∈ told, c.1 ≠ 0 ∨ c.2 ≠ 0
  fst : ∀ c ∈ told, c.1 ≠ 0 → c.1 ∈ rights
  snd : ∀ c ∈ told, c.2 ≠ 0 → c.2 ∈ lefts
  left : ∀ v ∈ lefts, v ≠ 0 → ∃ f, (f, v) ∈ told
  right : ∀ v ∈ rights, v ≠ 0 → ∃ s, (v, s) ∈ told
  place : ∀ c ∈ told, c.1 ≠ 0 → c.2 ≠ 0 → (∀ x, lefts[x]? = some c.2 → x < c.1) ∧ ∀ y, rights[y]? = some c.1 → y < c.2
theorem look_none {P : List (Nat × Nat)} {o : Nat} : lookP P o = none ↔ o ∉ P.map (·.1) := by
  induction P with
  | nil => simp [lookP]
  | cons x r ih =>
    obtain ⟨o', a'⟩ := x
    unfold lookP
    by_cases e : o' = o
    · simp [e]
    · rw [if_neg e, ih, List.map_cons, List.mem_cons]
      constructor
      · intro h z
        rcases z with z | z
        · exact e z.symm
        · exact h z
      · intro h z
        exact h (.inr z)
theorem cnt_pos {P : List (Nat × Nat)} {v : Nat} (h : v ∈ P.map (·.2)) : 1 ≤ cnt P v := by
  induction P with
  | nil => cases h
  | cons x r ih =>
    show 1 ≤ (if v = x.2 then 1 else 0) + cnt r v
    rcases List.mem_cons.mp h with e | e
    · rw [if_pos e]
      omega
    · have := ih e
      omega
theorem cnt_nodup {P : List (Nat × Nat)} (h : ∀ v, cnt P v ≤ 1) : (P.map (·.2)).Nodup := by
  induction P with
  | nil => exact List.Pairwise.nil
  | cons x r ih =>
    have hc : ∀ v, cnt (x :: r) v = (if v = x.2 then 1 else 0) + cnt r v := fun _ => rfl
    refine List.nodup_cons.mpr ⟨fun hm => ?_, ih fun v => ?_⟩
    · have h1 : 1 ≤ cnt r x.2 := cnt_pos hm
      have h2 := h x.2
      rw [hc, if_pos rfl] at h2
      omega
    · have h2 := h v
      rw [hc] at h2
      omega
theorem left_over {L : List Nat} {n : Nat} (hn : L.Nodup) (hl : ∀ x ∈ L, x < n) : ((List.range n).filter fun a => !L.contains a).length + L.length = n := by
  have e1 : ((List.range n).filter fun a => L.contains a).length = L.length := by
    refine Nat.le_antisymm ?_ ?_
    · refine (List.nodup_range.sublist (List.filter_sublist)).length_le_of_subset fun x hx => ?_
      simpa using (List.mem_filter.mp hx).2
    · refine hn.length_le_of_subset fun x hx => ?_
      exact List.mem_filter.mpr ⟨List.mem_range.mpr (hl x hx), by simpa using hx⟩
  have e2 : ∀ l : List Nat, (l.filter fun a => L.contains a).length + (l.filter fun a => !L.contains a).length = l.length := by
    intro l
    induction l with
    | nil => rfl
    | cons x r ih =>
      rw [List.filter_cons, List.filter_cons]
      cases L.contains x
      · rw [if_neg (by simp), if_pos (by simp), List.length_cons, List.length_cons]
        omega
      · rw [if_pos (by simp), if_neg (by simp), List.length_cons, List.length_cons]
        omega
  have := e2 (List.range n)
  rw [e1, List.length_range] at this
  omega
theorem val_of {g : Grp} {i v p : Nat} (h : g[i]? = some (some v, p)) : valAt g i = v := by
  unfold valAt
  rw [List.getD_eq_getElem?_getD, h]
  rfl
theorem told_all {lefts rights : List Nat} {qs : List (Nat × Nat)}
    (hq : qs.Perm (partnersOf (tableOf (groupsOf (lefts.map some)) (groupsOf (rights.map some))))) :
    ToldOk lefts rights (toldOf (groupsOf (lefts.map some)) (groupsOf (rights.map some)) qs (partnersOf (tableOf (groupsOf (lefts.map some)) (groupsOf (rights.map some))))) ∧
    (toldOf (groupsOf (lefts.map some)) (groupsOf (rights.map some)) qs (partnersOf (tableOf (groupsOf (lefts.map some)) (groupsOf (rights.map some))))).length = numberFor (lefts.map some) (rights.map some) := by
  have gl := groups_ok lefts
  have gr := groups_ok rights
  unfold numberFor
  generalize groupsOf (lefts.map some) = left at *
  generalize groupsOf (rights.map some) = right at *
  have tok : TableOk (tableOf left right) right.length := by
    intro os hos o ho
    unfold tableOf at hos
    obtain ⟨l, _, rfl⟩ := List.mem_map.mp hos
    unfold fitsAt at ho
    exact List.mem_range.mp (List.mem_filter.mp ho).1
  have tl : (tableOf left right).length = left.length := by simp [tableOf]
  have ok := partnersUpTo_ok tok (tableOf left right).length (Nat.le_refl _)
  have hin := partners_in (tableOf left right) (tableOf left right).length
  have hc := partners_cnt (tableOf left right) (tableOf left right).length
  change AugOk right.length (tableOf left right).length [] (partnersOf (tableOf left right)) at ok
  change InT (tableOf left right) (partnersOf (tableOf left right)) at hin
  change ∀ v, cnt (partnersOf (tableOf left right)) v ≤ _ at hc
  rw [tl] at ok
  generalize hP : partnersOf (tableOf left right) = P at *
  have vn : (P.map (·.2)).Nodup := cnt_nodup fun v => by
    have := hc v
    split at this <;> omega
  have lm : ∀ i, i < left.length → ∃ v p, left[i]? = some (some v, p) ∧ v ≠ 0 ∧ v ∈ lefts ∧ ∀ x, lefts[x]? = some v → x ≤ p := fun i hi => by
    obtain ⟨v, p, e, h1, h2, h3⟩ := gl.mem _ (List.getElem_mem hi)
    exact ⟨v, p, by rw [List.getElem?_eq_getElem hi, e], h1, h2, h3⟩
  have rm : ∀ i, i < right.length → ∃ v p, right[i]? = some (some v, p) ∧ v ≠ 0 ∧ v ∈ rights ∧ ∀ x, rights[x]? = some v → x ≤ p := fun i hi => by
    obtain ⟨v, p, e, h1, h2, h3⟩ := gr.mem _ (List.getElem_mem hi)
    exact ⟨v, p, by rw [List.getElem?_eq_getElem hi, e], h1, h2, h3⟩
  have cases3 : ∀ c ∈ toldOf left right qs P, (∃ o a, (o, a) ∈ P ∧ c = (valAt right o, valAt left a)) ∨ (∃ a, a < left.length ∧ c = (0, valAt left a)) ∨ (∃ o, o < right.length ∧ c = (valAt right o, 0)) := by
    intro c hc
    unfold toldOf at hc
    rcases List.mem_append.mp hc with hc | hc
    · rcases List.mem_append.mp hc with hc | hc
      · obtain ⟨⟨o, a⟩, hm, rfl⟩ := List.mem_map.mp hc
        exact .inl ⟨o, a, hq.mem_iff.mp hm, rfl⟩
      · obtain ⟨a, hm, rfl⟩ := List.mem_map.mp hc
        exact .inr (.inl ⟨a, List.mem_range.mp (List.mem_filter.mp hm).1, rfl⟩)
    · obtain ⟨o, hm, rfl⟩ := List.mem_map.mp hc
      exact .inr (.inr ⟨o, List.mem_range.mp (List.mem_filter.mp hm).1, rfl⟩)
  refine ⟨⟨fun c hc => ?_, fun c hc => ?_, fun c hc => ?_, fun v hv h0 => ?_, fun v hv h0 => ?_, fun c hc h1 h2 => ?_⟩, ?_⟩
  · rcases cases3 c hc with ⟨o, a, hm, rfl⟩ | ⟨a, ha, rfl⟩ | ⟨o, ho, rfl⟩
    · obtain ⟨v, p, e, h1, _⟩ := rm o (ok.pr _ hm).1
      exact .inl (by show valAt right o ≠ 0; rw [val_of e]; exact h1)
    · obtain ⟨v, p, e, h1, _⟩ := lm a ha
      exact .inr (by show valAt left a ≠ 0; rw [val_of e]; exact h1)
    · obtain ⟨v, p, e, h1, _⟩ := rm o ho
      exact .inl (by show valAt right o ≠ 0; rw [val_of e]; exact h1)
  · rcases cases3 c hc with ⟨o, a, hm, rfl⟩ | ⟨a, ha, rfl⟩ | ⟨o, ho, rfl⟩
    · obtain ⟨v, p, e, h1, h2, _⟩ := rm o (ok.pr _ hm).1
      intro _
      show valAt right o ∈ rights
      rw [val_of e]; exact h2
    · exact fun h => absurd rfl h
    · obtain ⟨v, p, e, h1, h2, _⟩ := rm o ho
      intro _
      show valAt right o ∈ rights
      rw [val_of e]; exact h2
  · rcases cases3 c hc with ⟨o, a, hm, rfl⟩ | ⟨a, ha, rfl⟩ | ⟨o, ho, rfl⟩
    · obtain ⟨v, p, e, h1, h2, _⟩ := lm a (ok.pr _ hm).2
      intro _
      show valAt left a ∈ lefts
      rw [val_of e]; exact h2
    · obtain ⟨v, p, e, h1, h2, _⟩ := lm a ha
      intro _
      show valAt left a ∈ lefts
      rw [val_of e]; exact h2
    · exact fun h => absurd rfl h
  · obtain ⟨p, hp⟩ := gl.all v hv h0
    obtain ⟨a, ha⟩ := List.mem_iff_getElem?.mp hp
    have hal := (List.getElem?_eq_some_iff.mp ha).1
    by_cases hs : a ∈ P.map (·.2)
    · obtain ⟨⟨o, a'⟩, hm, e⟩ := List.mem_map.mp hs
      simp only at e
      subst e
      refine ⟨valAt right o, ?_⟩
      unfold toldOf
      refine List.mem_append_left _ (List.mem_append_left _ (List.mem_map.mpr ⟨(o, a'), hq.mem_iff.mpr hm, ?_⟩))
      rw [val_of ha]
    · refine ⟨0, ?_⟩
      unfold toldOf
      refine List.mem_append_left _ (List.mem_append_right _ (List.mem_map.mpr ⟨a, List.mem_filter.mpr ⟨List.mem_range.mpr hal, by simpa using hs⟩, ?_⟩))
      rw [val_of ha]
  · obtain ⟨p, hp⟩ := gr.all v hv h0
    obtain ⟨o, ho⟩ := List.mem_iff_getElem?.mp hp
    have hol := (List.getElem?_eq_some_iff.mp ho).1
    by_cases hs : o ∈ P.map (·.1)
    · obtain ⟨⟨o', a⟩, hm, e⟩ := List.mem_map.mp hs
      simp only at e
      subst e
      refine ⟨valAt left a, ?_⟩
      unfold toldOf
      refine List.mem_append_left _ (List.mem_append_left _ (List.mem_map.mpr ⟨(o', a), hq.mem_iff.mpr hm, ?_⟩))
      rw [val_of ho]
    · refine ⟨0, ?_⟩
      unfold toldOf
      refine List.mem_append_right _ (List.mem_map.mpr ⟨o, List.mem_filter.mpr ⟨List.mem_range.mpr hol, by rw [look_none.mpr hs]; rfl⟩, ?_⟩)
      rw [val_of ho]
  · rcases cases3 c hc with ⟨o, a, hm, rfl⟩ | ⟨a, ha, rfl⟩ | ⟨o, ho, rfl⟩
    · obtain ⟨s, p, e, _, _, h3⟩ := lm a (ok.pr _ hm).2
      obtain ⟨f, q, e2, _, _, h4⟩ := rm o (ok.pr _ hm).1
      have ht := hin _ hm
      have hg : (tableOf left right).getD a [] = fitsAt (some s, p) right := by
        rw [List.getD_eq_getElem?_getD]
        unfold tableOf
        rw [List.getElem?_map, e]
        rfl
      simp only [hg] at ht
      have hf := (List.mem_filter.mp ht).2
      have hg2 : right.getD o (none, 0) = (some f, q) := by rw [List.getD_eq_getElem?_getD, e2]; rfl
      rw [hg2, Bool.and_eq_true] at hf
      have f1 : p < f := of_decide_eq_true hf.1
      have f2 : q < s := of_decide_eq_true hf.2
      refine ⟨fun x hx => ?_, fun y hy => ?_⟩
      · simp only [val_of e, val_of e2] at hx ⊢
        have := h3 x hx
        omega
      · simp only [val_of e, val_of e2] at hy ⊢
        have := h4 y hy
        omega
    · exact absurd rfl h1
    · exact absurd rfl h2
  · unfold toldOf
    rw [List.length_append, List.length_append, List.length_map, List.length_map, List.length_map, hq.length_eq]
    have e1 := left_over vn (n := left.length) fun x hx => by
      obtain ⟨z, hz, rfl⟩ := List.mem_map.mp hx
      exact (ok.pr z hz).2
    have e2 := left_over ok.pn (n := right.length) fun x hx => by
      obtain ⟨z, hz, rfl⟩ := List.mem_map.mp hx
      exact (ok.pr z hz).1
    have e3 : ((List.range right.length).filter fun o => (lookP P o).isNone) = (List.range right.length).filter fun a => !(P.map (·.1)).contains a := by
      refine List.filter_congr fun o _ => ?_
      by_cases h : o ∈ P.map (·.1)
      · have : lookP P o ≠ none := fun z => (look_none.mp z) h
        cases e : lookP P o with
        | none => exact absurd e this
        | some a => simpa using h
      · rw [look_none.mpr h]
        simpa using h
    rw [e3]
    rw [List.length_map] at e1 e2
    omega
/-! ### which thing has which kind -/
def sel (told : List (Nat × Nat)) (p : Nat × Nat → Bool) (n : Nat) : List Nat := (List.range n).filter fun i => p (told.getD i (0, 0))
def roomP (b j : Nat) (c : Nat × Nat) : Bool := (decide (c.1 ≠ 0) && decide (j + c.1 = b)) || (decide (c.2 ≠ 0) && decide (j = b + c.2))
def doorP (lefts rights : List Nat) (j : Nat) (c : Nat × Nat) : Bool :=
  (decide (j < lefts.length) && (decide (c.2 ≠ 0) && decide (lefts[lefts.length - 1 - j]? = some c.2))) || (decide (lefts.length ≤ j) && (decide (c.1 ≠ 0) && decide (rights[j - lefts.length]? = some c.1)))
def thingSel (lefts rights : List Nat) (told : List (Nat × Nat)) (t : Nat) : List Nat :=
  if t % 2 = 0 then sel told (roomP lefts.length (t / 2)) told.length else sel told (doorP lefts rights (t / 2)) told.length
theorem sel_succ (told : List (Nat × Nat)) (p : Nat × Nat → Bool) (n : Nat) : sel told p (n + 1) = sel told p n ++ if p (told.getD n (0, 0)) = true then [n] else [] := by
  unfold sel
  rw [List.range_succ, List.filter_append]
  congr 1
  rw [List.filter_cons, List.filter_nil]
end Kl

/-! ## D15a -/
namespace Kl
open PySem PySem.Spec PyProof.Rows L2
local macro_rules | `(tactic| walk_at "rd") => `(tactic| repeat (first | refine ⟨_, rfl, ?_⟩ | refine ⟨_, _, rfl, rfl, ?_⟩ | refine ⟨_, _, rfl, ?_⟩ | refine ⟨rfl, ?_⟩ | refine ⟨Or.inl ⟨by decide, by decide⟩, ?_⟩ | refine ⟨Or.inr ⟨by decide, by decide⟩, ?_⟩ | refine ⟨⟨by decide, by decide⟩, ?_⟩ | refine ⟨by decide, ?_⟩ | refine ⟨show (0 : Int) < _ from by decide, ?_⟩))
/-- the letters of kinds -/
def lets (l : List Nat) : Str := ⟨(l.map (97 + ·)).toArray⟩
theorem lets_nil : (Str.ofString "") = lets [] := by decide +kernel
theorem lets_snoc (l : List Nat) (i : Nat) : lets l ++ ⟨#[97 + i]⟩ = lets (l ++ [i]) := by
  unfold lets
  show (⟨(l.map (97 + ·)).toArray ++ #[97 + i]⟩ : Str) = _
  rw [List.map_append]
  simp
theorem lets_len (l : List Nat) : (lets l).length = l.length := by simp [lets, Str.length]
theorem kinds_at : ∀ i, i < 12 → (Str.ofString "abcdefghijkl").cps[i]? = some (97 + i) := by decide +kernel
/-- a list of texts of letters -/
abbrev ltsL (n : Nat) (F : Nat → List Nat) : List V := (List.range n).map fun j => V.str (lets (F j))
theorem lts_at {n k : Nat} (F : Nat → List Nat) (h : k < n) : (ltsL n F)[k]? = some (.str (lets (F k))) := by
  unfold ltsL
  rw [List.getElem?_map, List.getElem?_range h]
  rfl
theorem lts_len (n : Nat) (F : Nat → List Nat) : (ltsL n F).length = n := by simp
theorem lts_congr {n : Nat} {F G : Nat → List Nat} (h : ∀ j, j < n → G j = F j) : ltsL n F = ltsL n G := List.map_congr_left fun j hj => by rw [h j (List.mem_range.mp hj)]
theorem lts_set {n k i : Nat} {F G : Nat → List Nat} (h : ∀ j, j < n → G j = if j = k then F k ++ [i] else F j) : (ltsL n F).set k (.str (lets (F k) ++ ⟨#[97 + i]⟩)) = ltsL n G := by
  rw [lets_snoc]
  apply List.ext_getElem?
  intro j
  by_cases hj : j < n
  · rw [lts_at G hj, List.getElem?_set, lts_at F hj, lts_len]
    by_cases e : k = j
    · subst e
      rw [if_pos rfl, if_pos hj, h k hj, if_pos rfl]
    · rw [if_neg e, h j hj, if_neg (fun z => e z.symm)]
  · rw [List.getElem?_eq_none (by rw [List.length_set, lts_len]; omega), List.getElem?_eq_none (by rw [lts_len]; omega)]
theorem rep_flat (x : V) : ∀ n, (List.replicate n [x]).flatten = List.replicate n x
  | 0 => rfl
  | n + 1 => by rw [List.replicate_succ, List.flatten_cons, rep_flat x n]; rfl
theorem lts_rep (n : Nat) : (List.replicate n [V.str (Str.ofString "")]).flatten = ltsL n fun _ => [] := by
  rw [rep_flat, lets_nil]
  unfold ltsL
  rw [List.map_const', List.length_range]
theorem seq_val {t u : TS} {D : Ends} {σ : L2.St} {H : Hp} (Post : L2.St → Hp → Prop) (h : ∀ D : Ends, (∀ σ' H', Post σ' H' → D.nx σ' H') → t D σ H) (h2 : ∀ σ' H', Post σ' H' → u D σ' H') : tSeq t u D σ H := h _ h2
theorem wipe_in {σ : L2.St} {i : Nat} : ∀ {vs : List Nat}, i ∈ vs → i < σ.length → (wipe σ vs)[i]? = some none
  | [], h, _ => by cases h
  | v :: vs, h, hl => by
    show ((wipe σ vs).set v none)[i]? = some none
    rw [List.getElem?_set]
    by_cases e : v = i
    · rw [if_pos e, if_pos (by rw [wipe_length, e]; exact hl)]
    · rw [if_neg e]
      rcases List.mem_cons.mp h with z | z
      · exact absurd z.symm e
      · exact wipe_in z hl
theorem wipe_ext {σ τ : L2.St} {vs : List Nat} (hl : σ.length = τ.length) (h : ∀ i, i ∉ vs → σ[i]? = τ[i]?) : wipe σ vs = wipe τ vs := by
  apply List.ext_getElem?
  intro i
  by_cases hi : i ∈ vs
  · by_cases hlt : i < σ.length
    · rw [wipe_in hi hlt, wipe_in hi (by omega)]
    · rw [List.getElem?_eq_none (by rw [wipe_length]; omega), List.getElem?_eq_none (by rw [wipe_length]; omega)]
  · rw [wipe_out hi, wipe_out hi]
    exact h i hi
theorem wipe_set {σ : L2.St} {v : Nat} {x : Option V} {vs : List Nat} (h : v ∈ vs) : wipe (σ.set v x) vs = wipe σ vs := wipe_ext (List.length_set ..) fun i hi => by
  rw [List.getElem?_set_ne (fun e => hi (by rw [← e]; exact h))]
theorem wipe_wipe {σ : L2.St} {vs : List Nat} : wipe (wipe σ vs) vs = wipe σ vs := wipe_ext (wipe_length ..) fun i hi => wipe_out hi
theorem perm_toI {qs : List (Int × Int)} {P : List (Nat × Nat)} (h : qs.Perm (P.map toI)) : ∃ qs' : List (Nat × Nat), qs = qs'.map toI ∧ qs'.Perm P := by
  refine ⟨qs.map fun q => (q.1.toNat, q.2.toNat), ?_, ?_⟩
  · rw [List.map_map]
    have : qs.map (toI ∘ fun q => (q.1.toNat, q.2.toNat)) = qs.map id := List.map_congr_left fun q hq => by
      obtain ⟨x, _, rfl⟩ := List.mem_map.mp (h.mem_iff.mp hq)
      rfl
    rw [this, List.map_id]
  · have e := h.map fun q : Int × Int => (q.1.toNat, q.2.toNat)
    rw [List.map_map] at e
    have : P.map ((fun q : Int × Int => (q.1.toNat, q.2.toNat)) ∘ toI) = P.map id := List.map_congr_left fun q _ => rfl
    rw [this, List.map_id] at e
    exact e
theorem filter_map_g {β : Type} (p : Nat → Bool) (g : Nat → β) : ∀ n, (List.range n).filterMap (fun i => if p i = true then some (g i) else none) = ((List.range n).filter p).map g
  | 0 => rfl
  | n + 1 => by
    rw [fm_succ, List.range_succ, List.filter_append, List.map_append, filter_map_g p g n]
    congr 1
    by_cases h : p n = true <;> simp [h]
/-- a list of pairs of numbers -/
def TolH (H : Hp) (t : Addr) (told : List (Nat × Nat)) : Prop := ∃ us, H t = some (.lst us) ∧ Paired (repI H) us told
theorem TolH.mono {H H' : Hp} {t : Addr} {told : List (Nat × Nat)} (h : TolH H t told) (g : Same H H') : TolH H' t told := let ⟨us, h1, h2⟩ := h; ⟨us, g _ _ h1, paired_mono h2 fun _ _ => repI_mono (Same.t g)⟩
theorem paired_app {α β : Type} {F : α → β → Prop} : ∀ {xs : List α} {ys : List β} {xs2 : List α} {ys2 : List β}, Paired F xs ys → Paired F xs2 ys2 → Paired F (xs ++ xs2) (ys ++ ys2)
  | _, _, _, _, .nil, q => q
  | _, _, _, _, .cons r t, q => .cons r (paired_app t q)
theorem inV_snd (a : Nat) (M : List (Nat × Nat)) : inV (V.int (a : Nat)) ((M.map toI).map fun p => V.int p.2) = (M.map (·.2)).contains a := by
  induction M with
  | nil => rfl
  | cons x r ih =>
    unfold inV at ih ⊢
    rw [List.map_cons, List.map_cons, List.any_cons, ih, List.map_cons, List.contains_cons]
    congr 1
    show (((x.2 : Nat) : Int) == ((a : Nat) : Int)) = (a == x.2)
    rw [Bool.eq_iff_iff]
    simp only [beq_iff_eq]
    omega
/-- the things of a lane by its kinds -/
def thingsOf (lefts rights : List Nat) (told : List (Nat × Nat)) : List Str := (List.range (2 * (lefts.length + rights.length) + 1)).map fun t => lets (thingSel lefts rights told t)
section
abbrev n_lane_by : List Str := ["lefts", "rights", "left", "right", "partners", "told", "shared", "rooms", "doors", "sign", "first", "second", "x", "value", "y", "things", "door", "room", "other", "at", "place"]
theorem sc_lane_by : FnScope n_lane_by ["lefts", "rights"] (defScope s_lane_by) := ⟨rfl, rfl, rfl, by decide +kernel, rfl, by decide +kernel, by decide +kernel⟩
end
end Kl

/-! ## D15b -/
namespace Kl
open PySem PySem.Spec PyProof.Rows L2
local macro_rules | `(tactic| walk_at "rd") => `(tactic| repeat (first | refine ⟨_, rfl, ?_⟩ | refine ⟨_, _, rfl, rfl, ?_⟩ | refine ⟨_, _, rfl, ?_⟩ | refine ⟨rfl, ?_⟩ | refine ⟨Or.inl ⟨by decide, by decide⟩, ?_⟩ | refine ⟨Or.inr ⟨by decide, by decide⟩, ?_⟩ | refine ⟨⟨by decide, by decide⟩, ?_⟩ | refine ⟨by decide, ?_⟩ | refine ⟨show (0 : Int) < _ from by decide, ?_⟩))
/-- the things made of the rooms and the doors -/
def mixS (F G : Nat → List Nat) (t : Nat) : Str := lets (if t % 2 = 0 then F (t / 2) else G (t / 2))
theorem cutV_from1 (xs : List V) : cutV xs (some 1) none = xs.drop 1 := by
  have e : HT.sIx xs.length 0 (some 1) = min 1 xs.length := HT.sIx_nat xs.length 0 1
  unfold cutV
  rw [e, HT.sIx_none]
  by_cases h : 1 ≤ xs.length
  · rw [Nat.min_eq_left h, List.take_of_length_le]
    rw [List.length_drop]
    omega
  · rw [List.drop_eq_nil_of_le (by omega), List.drop_eq_nil_of_le (by omega), List.take_nil]
theorem mix_step (F G : Nat → List Nat) (j : Nat) : ((List.range (2 * j + 1)).map fun t => V.str (mixS F G t)) ++ [V.str (lets (G j)), V.str (lets (F (j + 1)))] = (List.range (2 * (j + 1) + 1)).map fun t => V.str (mixS F G t) := by
  have e : 2 * (j + 1) + 1 = 2 * j + 1 + 1 + 1 := by omega
  have e1 : mixS F G (2 * j + 1) = lets (G j) := by
    unfold mixS
    rw [if_neg (by omega), show (2 * j + 1) / 2 = j by omega]
  have e2 : mixS F G (2 * j + 1 + 1) = lets (F (j + 1)) := by
    unfold mixS
    rw [if_pos (by omega), show (2 * j + 1 + 1) / 2 = j + 1 by omega]
  rw [e, List.range_succ (n := 2 * j + 1 + 1), List.range_succ (n := 2 * j + 1), List.map_append, List.map_append, List.append_assoc]
  show _ ++ [_, _] = _ ++ ([V.str (mixS F G (2 * j + 1))] ++ [V.str (mixS F G (2 * j + 1 + 1))])
  rw [e1, e2]
  rfl
section
variable {P : Program} {w : World} {K : PySem.W.Frag} {mg : Str → Option Value} {base : Heap} {f : Addr} {fd : FuncData}
theorem lane_tail9 (T : Bt mg) {cdv : Value} {A : Around} {outer : List Env} {s : Shared} {H : Hp} {E : XK} (hr : Room 63 (A.deeper (envOfC "lane_by" (defScope s_lane_by) s.heap.objs.size f cdv))) :
    ∃ t, PSs (cxOf CX0 P w K mg base n_lane_by "lane_by" (defScope s_lane_by) f cdv A outer s H E).nox ((defBody s_lane_by).drop 9) t ∧
      ∀ (D : Ends) (H1 : Hp) (a m rm dr : Addr) (ls rs : List V) (n : Nat) (F G : Nat → List Nat) (x2 x3 x4 x5 x6 x9 x10 x11 x12 x13 x14 x15 x16 x17 x18 x19 x20 : Option V), H1 a = some (.tup ls) → n ≤ 12 → H1 rm = some (.lst (ltsL (n + 1) F)) → H1 dr = some (.lst (ltsL n G)) →
        (∀ p t H', Same H1 H' → H' p = some (.tup [.int (ls.length : Nat), .ref t]) → H' t = some (.tup ((List.range (2 * n + 1)).map fun t => V.str (mixS F G t))) → D.rt (.ref p) H') →
        t D [some (.ref a), some (.ref m), x2, x3, x4, x5, x6, some (.ref rm), some (.ref dr), x9, x10, x11, x12, x13, x14, x15, x16, x17, x18, x19, x20] H1 := by
  refine ⟨_, (pss_cons (ps_set (i := 15) sc_lane_by.nd rfl (Or.inl rfl) (pe_lst (pa_cons (pe_ix ix_list (pv 7) pe_int (fun _ _ => rfl)) pa_nil)))
  (pss_cons (ps_for PassesOwn.never rfl (pi_zip (by rfl) T.zip (pa_cons (pv 8) (pa_cons (pe_slice sl_list (pv 7) (po_some pe_int) po_none) pa_nil))) (pg_tup rfl (pgs_cons (pg_name (i := 16) sc_lane_by.nd rfl (Or.inl rfl)) (pgs_cons (pg_name (i := 17) sc_lane_by.nd rfl (Or.inl rfl)) pgs_nil))) (pss_one (ps_set (i := 15) sc_lane_by.nd rfl (Or.inl rfl) (pe_op op_cat (pv 15) (pe_lst (pa_cons (pv 16) (pa_cons (pv 17) pa_nil)))))))
  (pss_one (ps_ret (pe_tup (pa_cons (pe_callB call_len_seq (by rfl) T.len (by decide +kernel) (pa_cons (pv 0) pa_nil)) (pa_cons (pe_callTy call_tuple_of (by rfl) T.tuple (by decide +kernel) (pa_cons (pv 15) pa_nil)) pa_nil))))))), ?_⟩
  intro D H1 a m rm dr ls rs n F G x2 x3 x4 x5 x6 x9 x10 x11 x12 x13 x14 x15 x16 x17 x18 x19 x20 ha hn hrm hdr q
  walk_at "rd"
  refine ⟨rm, _, _, _, rfl, rfl, SqL.of hrm, at_of (j := 0) rfl (lts_at F (by omega)), ?_⟩
  walk_at "rd"
  refine ⟨by simp [sizeLine], fun t0 ht0 => ?_⟩
  have g2 := same_new ht0 (HO.lst [V.str (lets (F 0))])
  have hth : (upd H1 t0 (HO.lst [V.str (lets (F 0))])) t0 = some (.lst ((List.range (2 * 0 + 1)).map fun t => V.str (mixS F G t))) := by
    rw [upd_same]
    rfl
  generalize upd H1 t0 (HO.lst [V.str (lets (F 0))]) = H2 at g2 hth ⊢
  walk_at "rd"
  refine ⟨rm, _, rfl, SqL.of (g2 _ _ hrm), fun r2 hr2 => ?_⟩
  rw [cutV_from1]
  have g3 := same_new hr2 (HO.lst ((ltsL (n + 1) F).drop 1))
  have hr3 : (upd H2 r2 (HO.lst ((ltsL (n + 1) F).drop 1))) r2 = some (.lst ((ltsL (n + 1) F).drop 1)) := upd_same
  generalize upd H2 r2 (HO.lst ((ltsL (n + 1) F).drop 1)) = H3 at g3 hr3 ⊢
  have g13 := g2.trans g3
  walk_at "rd"
  refine ⟨dr, r2, _, _, rfl, SqL.of (g13 _ _ hdr), SqL.of hr3, ?_⟩
  refine for_it (walk_zip (n := n) (by rw [lts_len, List.length_drop, lts_len]; omega)) (fun j σ H' => Same H3 H' ∧ ∃ (th : Addr) (y z : Option V), H' th = some (.lst ((List.range (2 * j + 1)).map fun t => V.str (mixS F G t))) ∧
      σ = [some (.ref a), some (.ref m), x2, x3, x4, x5, x6, some (.ref rm), some (.ref dr), x9, x10, x11, x12, x13, x14, some (.ref th), y, z, x18, x19, x20])
    ⟨Same.refl _, t0, _, _, g3 _ _ hth, rfl⟩ (fun i σ H' _ p => ⟨SqL.of (p.1 _ _ (g13 _ _ hdr)), SqL.of (p.1 _ _ hr3)⟩) ?_ (fun σ H4 p4 => ?_)
  · rintro j x σ H4 H5 hj ⟨g4, th, y0, z0, hth4, rfl⟩ ⟨t1, u, v, rfl, ht1, rfl, hu, hv⟩
    have hu : (ltsL n G)[j]? = some u := hu
    rw [lts_at G hj] at hu
    obtain rfl := Option.some.inj hu
    have hv : ((ltsL (n + 1) F).drop 1)[j]? = some v := hv
    rw [List.getElem?_drop, show 1 + j = j + 1 by omega, lts_at F (by omega)] at hv
    obtain rfl := Option.some.inj hv
    have s1 := same_new ht1 (HO.tup [V.str (lets (G j)), V.str (lets (F (j + 1)))])
    refine ⟨t1, _, rfl, SqT.of upd_same, rfl, ?_⟩
    walk_at "rd"
    refine ⟨by simp [sizeLine], fun p2 hp2 => ?_⟩
    have s2 := same_new hp2 (HO.lst [V.str (lets (G j)), V.str (lets (F (j + 1)))])
    refine ⟨th, p2, _, _, rfl, rfl, (s1.trans s2) _ _ hth4, upd_same, ?_, fun p3 hp3 => ?_⟩
    · simp only [List.length_map, List.length_range, List.length_cons, List.length_nil]
      exact Nat.le_of_lt (sz100 (by omega))
    rw [mix_step]
    exact ⟨(g4.trans (s1.trans s2)).trans (same_new hp3 _), p3, _, _, upd_same, rfl⟩
  · obtain ⟨g4, th, y0, z0, hth4, rfl⟩ := p4
    walk_at "rd"
    refine ⟨a, _, rfl, .inr (SqT.of ((g13.trans g4) _ _ ha)), ?_⟩
    walk_at "rd"
    refine ⟨th, _, rfl, .inl ⟨SqL.of hth4, fun t9 ht9 => ?_⟩⟩
    walk_at "rd"
    refine ⟨by simp [sizeLine], fun p9 hp9 => ?_⟩
    exact q p9 t9 _ ((g13.trans g4).trans ((same_new ht9 _).trans (same_new hp9 _))) upd_same (same_new hp9 _ _ _ upd_same)
end
end Kl

/-! ## D15c -/
namespace Kl
open PySem PySem.Spec PyProof.Rows L2
local macro_rules | `(tactic| walk_at "rd") => `(tactic| repeat (first | refine ⟨_, rfl, ?_⟩ | refine ⟨_, _, rfl, rfl, ?_⟩ | refine ⟨_, _, rfl, ?_⟩ | refine ⟨rfl, ?_⟩ | refine ⟨Or.inl ⟨by decide, by decide⟩, ?_⟩ | refine ⟨Or.inr ⟨by decide, by decide⟩, ?_⟩ | refine ⟨⟨by decide, by decide⟩, ?_⟩ | refine ⟨by decide, ?_⟩ | refine ⟨show (0 : Int) < _ from by decide, ?_⟩))
theorem ixN_of {n j : Nat} {k : Int} (e : k = (j : Int)) (h : j < n) : ixN n k = some j := by
  subst e
  unfold ixN
  rw [if_pos (by omega), if_pos (by omega)]
  rfl
theorem augS_lts {H : Hp} {σ : L2.St} {D : Ends} {rm : Addr} {n k i : Nat} {F G : Nat → List Nat} {kk : Int} (hs : σ[9]? = some (some (.str ⟨#[97 + i]⟩))) (hrm : H rm = some (.lst (ltsL n F))) (hk : k < n) (ek : kk = (k : Int)) (hl : (F k).length ≤ 50)
    (hG : ∀ j, j < n → G j = if j = k then F k ++ [i] else F j) (q : D.nx σ (upd H rm (.lst (ltsL n G)))) :
    rGetL (.ref rm) (.int kk) H fun x H3 => tVar 9 σ H3 fun y H4 => ipS x y H4 fun z H5 => rSetL (.ref rm) (.int kk) z H5 fun H6 => D.nx σ H6 := by
  refine ⟨rm, _, k, _, rfl, by rw [ek], hrm, lts_at F hk, _, hs, _, _, rfl, rfl, ?_, rm, _, kk, k, rfl, rfl, hrm, ?_, ?_⟩
  · rw [lets_len]
    exact Nat.le_of_lt (sz100 (Nat.le_trans (Nat.add_le_add_right hl 1) (by decide)))
  · rw [lts_len]
    exact ixN_of ek hk
  · rw [lts_set hG]
    exact q
theorem app_or {l : List Nat} {i : Nat} {A B : Bool} (h : A = true → B = false) : (l ++ if A = true then [i] else []) ++ (if B = true then [i] else []) = l ++ if (A || B) = true then [i] else [] := by
  cases A <;> cases B <;> simp at h ⊢
theorem sel_le (told : List (Nat × Nat)) (p : Nat × Nat → Bool) (n : Nat) : (sel told p n).length ≤ n := by
  have := List.length_filter_le (fun i => p (told.getD i (0, 0))) (List.range n)
  rw [List.length_range] at this
  exact this
theorem opt_len (b : Bool) (i : Nat) : (if b = true then [i] else []).length ≤ 1 := by cases b <;> simp
def c1 (b : Nat) (c : Nat × Nat) (j : Nat) : Bool := decide (c.1 ≠ 0) && decide (j + c.1 = b)
def c2 (b : Nat) (c : Nat × Nat) (j : Nat) : Bool := decide (c.2 ≠ 0) && decide (j = b + c.2)
def c3 (lefts : List Nat) (c : Nat × Nat) (x j : Nat) : Bool := (decide (lefts.length ≤ j + x) && decide (j < lefts.length)) && (decide (c.2 ≠ 0) && decide (lefts[lefts.length - 1 - j]? = some c.2))
def c4 (lefts rights : List Nat) (c : Nat × Nat) (y j : Nat) : Bool := (decide (j < lefts.length + y) && decide (lefts.length ≤ j)) && (decide (c.1 ≠ 0) && decide (rights[j - lefts.length]? = some c.1))
def more (F : Nat → List Nat) (c : Nat → Bool) (i : Nat) (j : Nat) : List Nat := F j ++ if c j = true then [i] else []
theorem more_one {F : Nat → List Nat} {c : Nat → Bool} {i k : Nat} (h1 : c k = true) (h2 : ∀ j, j ≠ k → c j = false) (j : Nat) : more F c i j = if j = k then F k ++ [i] else F j := by
  unfold more
  by_cases e : j = k
  · rw [if_pos e, e, h1, if_pos rfl]
  · rw [if_neg e, h2 j e, if_neg (by decide), List.append_nil]
theorem more_none {F : Nat → List Nat} {c : Nat → Bool} {i : Nat} (h : ∀ j, c j = false) (j : Nat) : more F c i j = F j := by
  unfold more
  rw [h j, if_neg (by decide), List.append_nil]
/-- one more -/
theorem more_step {F : Nat → List Nat} {c c' : Nat → Bool} {i k : Nat} (h0 : c k = false) (h1 : c' k = true) (h2 : ∀ j, j ≠ k → c' j = c j) (j : Nat) : more F c' i j = if j = k then more F c i k ++ [i] else more F c i j := by
  unfold more
  by_cases e : j = k
  · rw [if_pos e, e, h1, h0, if_pos rfl, if_neg (by decide), List.append_nil]
  · rw [if_neg e, h2 j e]
theorem more_same {F : Nat → List Nat} {c c' : Nat → Bool} {i : Nat} (h : ∀ j, c' j = c j) (j : Nat) : more F c' i j = more F c i j := by
  unfold more
  rw [h j]
theorem vals_at {row : List Nat} {x : Nat} {v : V} (h : ((row.map some).map oV)[x]? = some v) : ∃ u, row[x]? = some u ∧ v = .int (u : Nat) := by
  obtain ⟨o, ho, rfl⟩ := row_of h
  rw [List.getElem?_map] at ho
  cases e : row[x]? with
  | none => rw [e] at ho; cases ho
  | some u => rw [e] at ho; obtain rfl := Option.some.inj ho; exact ⟨u, rfl, rfl⟩
theorem vals_len (row : List Nat) : ((row.map some).map oV).length = row.length := by simp
section
variable {P : Program} {w : World} {K : PySem.W.Frag} {mg : Str → Option Value} {base : Heap} {f : Addr} {fd : FuncData}
theorem lane_tail5 (T : Bt mg) {cdv : Value} {A : Around} {outer : List Env} {s : Shared} {H : Hp} {E : XK} (hr : Room 63 (A.deeper (envOfC "lane_by" (defScope s_lane_by) s.heap.objs.size f cdv))) :
    ∃ t, PSs (cxOf CX0 P w K mg base n_lane_by "lane_by" (defScope s_lane_by) f cdv A outer s H E).nox ((defBody s_lane_by).drop 5) t ∧
      ∀ (D : Ends) (H1 : Hp) (a m td : Addr) (lefts rights : List Nat) (told : List (Nat × Nat)) (x2 x3 x4 x6 x7 x8 x9 x10 x11 x12 x13 x14 x15 x16 x17 x18 x19 x20 : Option V), RowH H1 a (lefts.map some) → RowH H1 m (rights.map some) → TolH H1 td told →
        told.length ≤ 12 → lefts.length + rights.length ≤ 12 → (∀ c ∈ told, c.1 ≤ lefts.length ∧ c.2 ≤ rights.length) →
        (∀ p H', Same H1 H' → LaneH H' p lefts.length rights.length (thingsOf lefts rights told) → D.rt (.ref p) H') →
        t D [some (.ref a), some (.ref m), x2, x3, x4, some (.ref td), x6, x7, x8, x9, x10, x11, x12, x13, x14, x15, x16, x17, x18, x19, x20] H1 := by
  obtain ⟨t9, TL, tail⟩ := lane_tail9 (P := P) (w := w) (K := K) (base := base) (f := f) (cdv := cdv) (outer := outer) (H := H) (E := E) T hr
  obtain ⟨tK, hKI⟩ := T.ki
  refine ⟨_, (pss_cons (ps_if (pt_cmpR op_gt (pe_callB call_len_seq (by rfl) T.len (by decide +kernel) (pa_cons (pv 5) pa_nil)) (pe_callB call_len_str (by rfl) T.len (by decide +kernel) (pa_cons (pe_glob (v := .str "abcdefghijkl") (by rfl) hKI ⟨_, rfl⟩) pa_nil)) (nomark _)) (pss_one ps_never) pss_nil)
  (pss_cons (ps_set (i := 7) sc_lane_by.nd rfl (Or.inl rfl) (pe_op op_rep (pe_lst (pa_cons pe_str pa_nil)) (pe_op op_add (pe_op op_add (pe_callB call_len_seq (by rfl) T.len (by decide +kernel) (pa_cons (pv 0) pa_nil)) (pe_callB call_len_seq (by rfl) T.len (by decide +kernel) (pa_cons (pv 1) pa_nil))) pe_int)))
  (pss_cons (ps_set (i := 8) sc_lane_by.nd rfl (Or.inl rfl) (pe_op op_rep (pe_lst (pa_cons pe_str pa_nil)) (pe_op op_add (pe_callB call_len_seq (by rfl) T.len (by decide +kernel) (pa_cons (pv 0) pa_nil)) (pe_callB call_len_seq (by rfl) T.len (by decide +kernel) (pa_cons (pv 1) pa_nil)))))
  (pss_cons (ps_for PassesOwn.never rfl (pi_zipSL (by rfl) T.zip (pa_cons (pe_glob (v := .str "abcdefghijkl") (by rfl) hKI ⟨_, rfl⟩) (pa_cons (pv 5) pa_nil))) (pg_tup rfl (pgs_cons (pg_name (i := 9) sc_lane_by.nd rfl (Or.inl rfl)) (pgs_cons (pg_tup rfl (pgs_cons (pg_name (i := 10) sc_lane_by.nd rfl (Or.inl rfl)) (pgs_cons (pg_name (i := 11) sc_lane_by.nd rfl (Or.inl rfl)) pgs_nil))) pgs_nil))) (pss_cons (ps_if (PW.pt (pw_and (pt_cmpR op_ne (pv 10) pe_int (nomark _)) (pw_and1 (pt_cmpR op_notN (pv 10) pe_non (nomark _))))) (pss_one (ps_augS (pv 7) (pe_op op_sub (pe_callB call_len_seq (by rfl) T.len (by decide +kernel) (pa_cons (pv 0) pa_nil)) (pv 10)) get_list (pv 9) ip_addS set_list)) pss_nil)
  (pss_cons (ps_if (PW.pt (pw_and (pt_cmpR op_ne (pv 11) pe_int (nomark _)) (pw_and1 (pt_cmpR op_notN (pv 11) pe_non (nomark _))))) (pss_one (ps_augS (pv 7) (pe_op op_add (pe_callB call_len_seq (by rfl) T.len (by decide +kernel) (pa_cons (pv 0) pa_nil)) (pv 11)) get_list (pv 9) ip_addS set_list)) pss_nil)
  (pss_cons (ps_for PassesOwn.never rfl (pi_enumT (by rfl) T.enumerate (pa_cons (pv 0) pa_nil)) (pg_tup rfl (pgs_cons (pg_name (i := 12) sc_lane_by.nd rfl (Or.inl rfl)) (pgs_cons (pg_name (i := 13) sc_lane_by.nd rfl (Or.inl rfl)) pgs_nil))) (pss_one (ps_if (PW.pt (pw_and (pt_cmpR op_ne (pv 11) pe_int (nomark _)) (pw_and1 (pt_cmpR op_eq (pv 13) (pv 11) (nomark _))))) (pss_one (ps_augS (pv 8) (pe_op op_sub (pe_op op_sub (pe_callB call_len_seq (by rfl) T.len (by decide +kernel) (pa_cons (pv 0) pa_nil)) (pv 12)) pe_int) get_list (pv 9) ip_addS set_list)) pss_nil)))
  (pss_one (ps_for PassesOwn.never rfl (pi_enumT (by rfl) T.enumerate (pa_cons (pv 1) pa_nil)) (pg_tup rfl (pgs_cons (pg_name (i := 14) sc_lane_by.nd rfl (Or.inl rfl)) (pgs_cons (pg_name (i := 13) sc_lane_by.nd rfl (Or.inl rfl)) pgs_nil))) (pss_one (ps_if (PW.pt (pw_and (pt_cmpR op_ne (pv 10) pe_int (nomark _)) (pw_and1 (pt_cmpR op_eq (pv 13) (pv 10) (nomark _))))) (pss_one (ps_augS (pv 8) (pe_op op_add (pe_callB call_len_seq (by rfl) T.len (by decide +kernel) (pa_cons (pv 0) pa_nil)) (pv 14)) get_list (pv 9) ip_addS set_list)) pss_nil))))))))
  TL)))), ?_⟩
  intro D H1 a m td lefts rights told x2 x3 x4 x6 x7 x8 x9 x10 x11 x12 x13 x14 x15 x16 x17 x18 x19 x20 ha hm htd htl hsum hbd q
  obtain ⟨ust, hust, prt⟩ := htd
  have lt := paired_len prt
  walk_at "rd"
  refine ⟨td, _, rfl, .inl (SqL.of hust), ?_⟩
  rw [lt]
  walk_at "rd"
  have e12 : (Str.ofString "abcdefghijkl").length = 12 := by decide +kernel
  (refine iteF ?_ ?_; (· exact decide_eq_false (by show ¬ ((((Str.ofString "abcdefghijkl").length : Nat) : Int) < ((told.length : Nat) : Int)); omega)))
  walk_at "rd"
  intro e1 he1
  have s1 := same_new he1 (HO.lst [V.str (Str.ofString "")])
  walk_at "rd"
  refine ⟨a, _, rfl, .inr (SqT.of (s1 _ _ ha)), ?_⟩
  rw [vals_len]
  walk_at "rd"
  refine ⟨m, _, rfl, .inr (SqT.of (s1 _ _ hm)), ?_⟩
  rw [vals_len]
  walk_at "rd"
  refine ⟨e1, _, _, rfl, rfl, upd_same, by omega, by omega, ?_, fun rm hrm0 => ?_⟩
  · have e : ((lefts.length : Int) + (rights.length : Int) + 1).toNat = lefts.length + rights.length + 1 := by omega
    show [V.str (Str.ofString "")].length * ((lefts.length : Int) + (rights.length : Int) + 1).toNat ≤ sizeLine
    rw [e]
    simp only [List.length_cons, List.length_nil]
    exact Nat.le_of_lt (sz100 (by omega))
  have e : ((lefts.length : Int) + (rights.length : Int) + 1).toNat = lefts.length + rights.length + 1 := by omega
  rw [show (List.replicate ((lefts.length : Int) + (rights.length : Int) + 1).toNat [V.str (Str.ofString "")]).flatten = ltsL (lefts.length + rights.length + 1) fun _ => [] by rw [e, lts_rep]]
  have s2 := same_new hrm0 (HO.lst (ltsL (lefts.length + rights.length + 1) fun _ => []))
  have h0rm : H1 rm = none := Same.none s1 hrm0
  have hrm : (upd (upd H1 e1 (HO.lst [V.str (Str.ofString "")])) rm (HO.lst (ltsL (lefts.length + rights.length + 1) fun _ => []))) rm = some (.lst (ltsL (lefts.length + rights.length + 1) fun _ => [])) := upd_same
  have g2 := s1.trans s2
  generalize upd (upd H1 e1 (HO.lst [V.str (Str.ofString "")])) rm (HO.lst (ltsL (lefts.length + rights.length + 1) fun _ => [])) = H2 at g2 hrm ⊢
  walk_at "rd"
  intro e2 he2
  have s3 := same_new he2 (HO.lst [V.str (Str.ofString "")])
  walk_at "rd"
  refine ⟨a, _, rfl, .inr (SqT.of ((g2.trans s3) _ _ ha)), ?_⟩
  rw [vals_len]
  walk_at "rd"
  refine ⟨m, _, rfl, .inr (SqT.of ((g2.trans s3) _ _ hm)), ?_⟩
  rw [vals_len]
  walk_at "rd"
  refine ⟨e2, _, _, rfl, rfl, upd_same, by omega, by omega, ?_, fun dr hdr0 => ?_⟩
  · have e : ((lefts.length : Int) + (rights.length : Int)).toNat = lefts.length + rights.length := by omega
    show [V.str (Str.ofString "")].length * ((lefts.length : Int) + (rights.length : Int)).toNat ≤ sizeLine
    rw [e]
    simp only [List.length_cons, List.length_nil]
    exact Nat.le_of_lt (sz100 (by omega))
  have e : ((lefts.length : Int) + (rights.length : Int)).toNat = lefts.length + rights.length := by omega
  rw [show (List.replicate ((lefts.length : Int) + (rights.length : Int)).toNat [V.str (Str.ofString "")]).flatten = ltsL (lefts.length + rights.length) fun _ => [] by rw [e, lts_rep]]
  have s4 := same_new hdr0 (HO.lst (ltsL (lefts.length + rights.length) fun _ => []))
  have h0dr : H1 dr = none := Same.none (g2.trans s3) hdr0
  have hdr : (upd (upd H2 e2 (HO.lst [V.str (Str.ofString "")])) dr (HO.lst (ltsL (lefts.length + rights.length) fun _ => []))) dr = some (.lst (ltsL (lefts.length + rights.length) fun _ => [])) := upd_same
  have hrm := (s3.trans s4) _ _ hrm
  have ne : rm ≠ dr := ne_of_none (s3 _ _ (by assumption : H2 rm = some (.lst (ltsL (lefts.length + rights.length + 1) fun _ => [])))) hdr0
  have g3 := g2.trans (s3.trans s4)
  generalize upd (upd H2 e2 (HO.lst [V.str (Str.ofString "")])) dr (HO.lst (ltsL (lefts.length + rights.length) fun _ => [])) = H3 at g3 hrm hdr ⊢
  walk_at "rd"
  refine ⟨_, td, ust, rfl, g3 _ _ hust, ?_⟩
  refine for_it (walk_zipSL (n := told.length) (by rw [e12, lt]; omega)) (fun i σ H' => Same H1 H' ∧ H' rm = some (.lst (ltsL (lefts.length + rights.length + 1) fun j => sel told (roomP lefts.length j) i)) ∧
      H' dr = some (.lst (ltsL (lefts.length + rights.length) fun j => sel told (doorP lefts rights j) i)) ∧
      ∃ y9 y10 y11 y12 y13 y14, σ = [some (.ref a), some (.ref m), x2, x3, x4, some (.ref td), x6, some (.ref rm), some (.ref dr), y9, y10, y11, y12, y13, y14, x15, x16, x17, x18, x19, x20])
    ⟨g3, hrm, hdr, _, _, _, _, _, _, rfl⟩ (fun i σ H' _ p => p.1 _ _ hust) ?_ (fun σ H4 p4 => ?_)
  · rintro i x σ H4 H5 hi ⟨g4, hrm4, hdr4, y9, y10, y11, y12, y13, y14, rfl⟩ ⟨t1, u, v, rfl, ht1, rfl, hu, hv⟩
    have hu : ((Str.ofString "abcdefghijkl").cps[i]?).map (fun c => V.str ⟨#[c]⟩) = some u := hu
    rw [kinds_at i (by omega)] at hu
    obtain rfl := Option.some.inj hu
    obtain ⟨c, hc⟩ := get_ex hi
    obtain ⟨v2, hv2, c0, rfl, hc0⟩ := paired_at prt hc
    have hv : ust[i]? = some v := hv
    rw [hv2] at hv
    obtain rfl := Option.some.inj hv
    obtain ⟨bd1, bd2⟩ := hbd c (List.mem_of_getElem? hc)
    have hgc : told.getD i (0, 0) = c := by rw [List.getD_eq_getElem?_getD, hc]; rfl
    have s5 := same_new ht1 (HO.tup [V.str ⟨#[97 + i]⟩, V.ref c0])
    have g5 := g4.trans s5
    have hrm5 := s5 _ _ hrm4
    have hdr5 := s5 _ _ hdr4
    refine ⟨t1, _, rfl, SqT.of upd_same, rfl, ?_⟩
    walk_at "rd"
    refine ⟨c0, _, rfl, SqT.of (g5 _ _ hc0), rfl, ?_⟩
    refine ⟨_, _, rfl, _, _, rfl, rfl, rfl, ?_⟩
    generalize upd H4 t1 (HO.tup [V.str ⟨#[97 + i]⟩, V.ref c0]) = H5 at g5 hrm5 hdr5 ⊢
    obtain ⟨F0, hF0⟩ : ∃ F0 : Nat → List Nat, F0 = fun j => sel told (roomP lefts.length j) i := ⟨_, rfl⟩
    obtain ⟨G0, hG0⟩ : ∃ G0 : Nat → List Nat, G0 = fun j => sel told (doorP lefts rights j) i := ⟨_, rfl⟩
    have lF0 : ∀ j, (F0 j).length ≤ 12 := fun j => by rw [hF0]; exact Nat.le_trans (sel_le _ _ _) (by omega)
    have lG0 : ∀ j, (G0 j).length ≤ 12 := fun j => by rw [hG0]; exact Nat.le_trans (sel_le _ _ _) (by omega)
    rw [← hF0] at hrm5
    rw [← hG0] at hdr5
    have fF : ∀ j, sel told (roomP lefts.length j) (i + 1) = more (more F0 (c1 lefts.length c) i) (c2 lefts.length c) i j := fun j => by
      rw [sel_succ, hgc]
      unfold more
      rw [app_or, hF0]
      · rfl
      · intro h
        unfold c1 at h
        unfold c2
        simp only [Bool.and_eq_true, decide_eq_true_eq] at h
        rw [Bool.and_eq_false_iff]
        exact .inr (decide_eq_false (by omega))
    have fG : ∀ j, j < lefts.length + rights.length → sel told (doorP lefts rights j) (i + 1) = more (more G0 (c3 lefts c lefts.length) i) (c4 lefts rights c rights.length) i j := fun j hj => by
      rw [sel_succ, hgc]
      unfold more
      rw [app_or, hG0]
      · have e : doorP lefts rights j c = (c3 lefts c lefts.length j || c4 lefts rights c rights.length j) := by
          unfold doorP c3 c4
          rw [decide_eq_true (show lefts.length ≤ j + lefts.length by omega), decide_eq_true (show j < lefts.length + rights.length by omega), Bool.true_and, Bool.true_and]
        rw [e]
      · intro h
        unfold c3 at h
        unfold c4
        simp only [Bool.and_eq_true, decide_eq_true_eq] at h
        rw [decide_eq_false (show ¬ lefts.length ≤ j by omega), Bool.and_false, Bool.false_and]
    refine seq_val (fun σ' H' => σ' = [some (.ref a), some (.ref m), x2, x3, x4, some (.ref td), x6, some (.ref rm), some (.ref dr), some (.str ⟨#[97 + i]⟩), some (.int (c.1 : Nat)), some (.int (c.2 : Nat)), y12, y13, y14, x15, x16, x17, x18, x19, x20] ∧
      Same H1 H' ∧ H' rm = some (.lst (ltsL (lefts.length + rights.length + 1) (more F0 (c1 lefts.length c) i))) ∧ H' dr = some (.lst (ltsL (lefts.length + rights.length) G0))) (fun D q => ?_) ?_
    · walk_at "rd"
      by_cases hz : c.1 = 0
      · (refine iteF ?_ ?_; (· exact vneF (by omega)))
        refine q _ _ ⟨rfl, g5, ?_, hdr5⟩
        rw [hrm5]
        congr 2
        exact lts_congr fun j _ => more_none (fun j => by unfold c1; rw [decide_eq_false (fun z => z hz), Bool.false_and]) j
      · (refine iteT ?_ ?_; (· exact vneT (by omega)))
        walk_at "rd"
        refine ⟨a, _, rfl, .inr (SqT.of (g5 _ _ ha)), ?_⟩
        rw [vals_len]
        walk_at "rd"
        refine augS_lts (i := i) (k := lefts.length - c.1) rfl hrm5 (by omega) (by omega) (Nat.le_trans (lF0 _) (by decide)) (G := more F0 (c1 lefts.length c) i) (fun j _ => more_one ?_ ?_ j) (q _ _ ⟨rfl, Same.mut g5 h0rm, upd_same, by rw [upd_ne (Ne.symm ne)]; exact hdr5⟩)
        · unfold c1
          rw [decide_eq_true hz, decide_eq_true (by omega)]
          rfl
        · intro j hj
          unfold c1
          rw [decide_eq_false (p := j + c.1 = lefts.length) (by omega), Bool.and_false]
    rintro _ H6 ⟨rfl, g6, hrm6, hdr6⟩
    refine seq_val (fun σ' H' => σ' = [some (.ref a), some (.ref m), x2, x3, x4, some (.ref td), x6, some (.ref rm), some (.ref dr), some (.str ⟨#[97 + i]⟩), some (.int (c.1 : Nat)), some (.int (c.2 : Nat)), y12, y13, y14, x15, x16, x17, x18, x19, x20] ∧
      Same H1 H' ∧ H' rm = some (.lst (ltsL (lefts.length + rights.length + 1) fun j => sel told (roomP lefts.length j) (i + 1))) ∧ H' dr = some (.lst (ltsL (lefts.length + rights.length) G0))) (fun D q => ?_) ?_
    · rw [show ltsL (lefts.length + rights.length + 1) (fun j => sel told (roomP lefts.length j) (i + 1)) = ltsL (lefts.length + rights.length + 1) (more (more F0 (c1 lefts.length c) i) (c2 lefts.length c) i) from lts_congr fun j _ => (fF j).symm] at q
      walk_at "rd"
      by_cases hz : c.2 = 0
      · (refine iteF ?_ ?_; (· exact vneF (by omega)))
        refine q _ _ ⟨rfl, g6, ?_, hdr6⟩
        rw [hrm6]
        congr 2
        exact lts_congr fun j _ => more_none (fun j => by unfold c2; rw [decide_eq_false (fun z => z hz), Bool.false_and]) j
      · (refine iteT ?_ ?_; (· exact vneT (by omega)))
        walk_at "rd"
        refine ⟨a, _, rfl, .inr (SqT.of (g6 _ _ ha)), ?_⟩
        rw [vals_len]
        walk_at "rd"
        refine augS_lts (i := i) (k := lefts.length + c.2) rfl hrm6 (by omega) (by omega) ?_ (G := more (more F0 (c1 lefts.length c) i) (c2 lefts.length c) i) (fun j _ => more_one ?_ ?_ j) (q _ _ ⟨rfl, Same.mut g6 h0rm, upd_same, by rw [upd_ne (Ne.symm ne)]; exact hdr6⟩)
        · unfold more
          rw [List.length_append]
          have h1 := lF0 (lefts.length + c.2)
          have h2 := opt_len (c1 lefts.length c (lefts.length + c.2)) i
          omega
        · unfold c2
          rw [decide_eq_true hz, decide_eq_true rfl]
          rfl
        · intro j hj
          unfold c2
          rw [decide_eq_false (p := j = lefts.length + c.2) (by omega), Bool.and_false]
    rintro _ H7 ⟨rfl, g7, hrm7, hdr7⟩
    refine seq_val (fun σ' H' => (∃ y12 y13, σ' = [some (.ref a), some (.ref m), x2, x3, x4, some (.ref td), x6, some (.ref rm), some (.ref dr), some (.str ⟨#[97 + i]⟩), some (.int (c.1 : Nat)), some (.int (c.2 : Nat)), y12, y13, y14, x15, x16, x17, x18, x19, x20]) ∧
      Same H1 H' ∧ H' rm = some (.lst (ltsL (lefts.length + rights.length + 1) fun j => sel told (roomP lefts.length j) (i + 1))) ∧ H' dr = some (.lst (ltsL (lefts.length + rights.length) (more G0 (c3 lefts c lefts.length) i)))) (fun D q => ?_) ?_
    · walk_at "rd"
      refine ⟨a, _, rfl, g7 _ _ ha, ?_⟩
      refine for_it walk_enumT (fun x σ' H' => (∃ y12 y13, σ' = [some (.ref a), some (.ref m), x2, x3, x4, some (.ref td), x6, some (.ref rm), some (.ref dr), some (.str ⟨#[97 + i]⟩), some (.int (c.1 : Nat)), some (.int (c.2 : Nat)), y12, y13, y14, x15, x16, x17, x18, x19, x20]) ∧
        Same H1 H' ∧ H' rm = some (.lst (ltsL (lefts.length + rights.length + 1) fun j => sel told (roomP lefts.length j) (i + 1))) ∧ H' dr = some (.lst (ltsL (lefts.length + rights.length) (more G0 (c3 lefts c x) i))))
        ⟨⟨_, _, rfl⟩, g7, hrm7, ?_⟩ (fun _ σ' H' _ p => p.2.1 _ _ ha) ?_ (fun σ' H' p => ?_)
      · rw [hdr7]
        congr 2
        exact lts_congr fun j _ => more_none (fun j => by unfold c3; rw [Bool.and_eq_false_iff, Bool.and_eq_false_iff]; by_cases h : j < lefts.length; exact .inl (.inl (decide_eq_false (by omega))); exact .inl (.inr (decide_eq_false h))) j
      · rintro x x0 _ H8 H9 hx ⟨⟨z12, z13, rfl⟩, g8, hrm8, hdr8⟩ ⟨t2, u, v, rfl, ht2, rfl, hu, hv⟩
        obtain rfl := Option.some.inj hu
        obtain ⟨u, hlx, rfl⟩ := vals_at hv
        rw [vals_len] at hx
        have s9 := same_new ht2 (HO.tup [V.int (x : Nat), V.int (u : Nat)])
        have g9 := g8.trans s9
        have hrm9 := s9 _ _ hrm8
        have hdr9 := s9 _ _ hdr8
        refine ⟨t2, _, rfl, SqT.of upd_same, rfl, ?_⟩
        generalize upd H8 t2 (HO.tup [V.int (x : Nat), V.int (u : Nat)]) = H9 at g9 hrm9 hdr9 ⊢
        walk_at "rd"
        have hsame : ¬ (c.2 ≠ 0 ∧ u = c.2) → ∀ j, c3 lefts c (x + 1) j = c3 lefts c x j := by
          intro hn j
          unfold c3
          by_cases hj : j = lefts.length - 1 - x
          · have e2 : lefts[lefts.length - 1 - j]? = some u := by rw [show lefts.length - 1 - j = x by omega]; exact hlx
            rw [e2]
            have e3 : (decide (c.2 ≠ 0) && decide (some u = some c.2)) = false := by
              rw [Bool.and_eq_false_iff]
              by_cases h1 : c.2 ≠ 0
              · exact .inr (decide_eq_false fun z => hn ⟨h1, Option.some.inj z⟩)
              · exact .inl (decide_eq_false h1)
            rw [e3, Bool.and_false, Bool.and_false]
          · rw [show decide (lefts.length ≤ j + (x + 1)) = decide (lefts.length ≤ j + x) by rw [Bool.eq_iff_iff]; simp only [decide_eq_true_eq]; omega]
        by_cases hz : c.2 = 0
        · (refine iteF ?_ ?_; (· exact vneF (by omega)))
          refine ⟨⟨_, _, rfl⟩, g9, hrm9, ?_⟩
          rw [hdr9]
          congr 2
          exact lts_congr fun j _ => more_same (hsame fun h => h.1 hz) j
        · (refine iteT ?_ ?_; (· exact vneT (by omega)))
          walk_at "rd"
          by_cases hw : u = c.2
          · (refine iteT ?_ ?_; (· exact veqT (by omega)))
            walk_at "rd"
            refine ⟨a, _, rfl, .inr (SqT.of (g9 _ _ ha)), ?_⟩
            rw [vals_len]
            walk_at "rd"
            refine augS_lts (i := i) (k := lefts.length - 1 - x) rfl hdr9 (by omega) (by omega) ?_ (G := more G0 (c3 lefts c (x + 1)) i) (fun j _ => more_step ?_ ?_ ?_ j) ⟨⟨_, _, rfl⟩, Same.mut g9 h0dr, by rw [upd_ne ne]; exact hrm9, upd_same⟩
            · unfold more
              rw [List.length_append]
              have h1 := lG0 (lefts.length - 1 - x)
              have h2 := opt_len (c3 lefts c x (lefts.length - 1 - x)) i
              omega
            · unfold c3
              rw [decide_eq_false (p := lefts.length ≤ lefts.length - 1 - x + x) (by omega), Bool.false_and, Bool.false_and]
            · unfold c3
              rw [show lefts.length - 1 - (lefts.length - 1 - x) = x by omega, hlx, hw, decide_eq_true hz, decide_eq_true (p := lefts.length ≤ lefts.length - 1 - x + (x + 1)) (by omega), decide_eq_true (p := lefts.length - 1 - x < lefts.length) (by omega), decide_eq_true rfl]
              rfl
            · intro j hj
              unfold c3
              by_cases hjl : j < lefts.length
              · rw [show decide (lefts.length ≤ j + (x + 1)) = decide (lefts.length ≤ j + x) by rw [Bool.eq_iff_iff]; simp only [decide_eq_true_eq]; omega]
              · rw [decide_eq_false hjl, Bool.and_false, Bool.and_false]
          · (refine iteF ?_ ?_; (· exact veqF (by omega)))
            refine ⟨⟨_, _, rfl⟩, g9, hrm9, ?_⟩
            rw [hdr9]
            congr 2
            exact lts_congr fun j _ => more_same (hsame fun h => hw h.2) j
      · rw [vals_len] at p
        exact q _ _ p
    rintro _ H8 ⟨⟨z12, z13, rfl⟩, g8, hrm8, hdr8⟩
    walk_at "rd"
    refine ⟨m, _, rfl, g8 _ _ hm, ?_⟩
    have G1 : ∀ j, (more G0 (c3 lefts c lefts.length) i j).length ≤ 13 := fun j => by
      unfold more
      rw [List.length_append]
      have h1 := lG0 j
      have h2 := opt_len (c3 lefts c lefts.length j) i
      omega
    generalize more G0 (c3 lefts c lefts.length) i = GG at hdr8 G1 fG
    refine for_it walk_enumT (fun y σ' H' => (∃ y12 y13 y14, σ' = [some (.ref a), some (.ref m), x2, x3, x4, some (.ref td), x6, some (.ref rm), some (.ref dr), some (.str ⟨#[97 + i]⟩), some (.int (c.1 : Nat)), some (.int (c.2 : Nat)), y12, y13, y14, x15, x16, x17, x18, x19, x20]) ∧
      Same H1 H' ∧ H' rm = some (.lst (ltsL (lefts.length + rights.length + 1) fun j => sel told (roomP lefts.length j) (i + 1))) ∧ H' dr = some (.lst (ltsL (lefts.length + rights.length) (more GG (c4 lefts rights c y) i))))
      ⟨⟨_, _, _, rfl⟩, g8, hrm8, ?_⟩ (fun _ σ' H' _ p => p.2.1 _ _ hm) ?_ (fun σ' H' p => ?_)
    · rw [hdr8]
      congr 2
      exact lts_congr fun j _ => more_none (fun j => by unfold c4; rw [Bool.and_eq_false_iff, Bool.and_eq_false_iff]; by_cases h : lefts.length ≤ j; exact .inl (.inl (decide_eq_false (by omega))); exact .inl (.inr (decide_eq_false h))) j
    · rintro y x0 _ H9 H10 hy ⟨⟨w12, w13, w14, rfl⟩, g9, hrm9, hdr9⟩ ⟨t2, u, v, rfl, ht2, rfl, hu, hv⟩
      obtain rfl := Option.some.inj hu
      obtain ⟨u, hly, rfl⟩ := vals_at hv
      rw [vals_len] at hy
      have s10 := same_new ht2 (HO.tup [V.int (y : Nat), V.int (u : Nat)])
      have g10 := g9.trans s10
      have hrm10 := s10 _ _ hrm9
      have hdr10 := s10 _ _ hdr9
      refine ⟨t2, _, rfl, SqT.of upd_same, rfl, ?_⟩
      generalize upd H9 t2 (HO.tup [V.int (y : Nat), V.int (u : Nat)]) = H10 at g10 hrm10 hdr10 ⊢
      walk_at "rd"
      have hsame : ¬ (c.1 ≠ 0 ∧ u = c.1) → ∀ j, c4 lefts rights c (y + 1) j = c4 lefts rights c y j := by
        intro hn j
        unfold c4
        by_cases hj : j = lefts.length + y
        · have e2 : rights[j - lefts.length]? = some u := by rw [show j - lefts.length = y by omega]; exact hly
          rw [e2]
          have e3 : (decide (c.1 ≠ 0) && decide (some u = some c.1)) = false := by
            rw [Bool.and_eq_false_iff]
            by_cases h1 : c.1 ≠ 0
            · exact .inr (decide_eq_false fun z => hn ⟨h1, Option.some.inj z⟩)
            · exact .inl (decide_eq_false h1)
          rw [e3, Bool.and_false, Bool.and_false]
        · rw [show decide (j < lefts.length + (y + 1)) = decide (j < lefts.length + y) by rw [Bool.eq_iff_iff]; simp only [decide_eq_true_eq]; omega]
      by_cases hz : c.1 = 0
      · (refine iteF ?_ ?_; (· exact vneF (by omega)))
        refine ⟨⟨_, _, _, rfl⟩, g10, hrm10, ?_⟩
        rw [hdr10]
        congr 2
        exact lts_congr fun j _ => more_same (hsame fun h => h.1 hz) j
      · (refine iteT ?_ ?_; (· exact vneT (by omega)))
        walk_at "rd"
        by_cases hw : u = c.1
        · (refine iteT ?_ ?_; (· exact veqT (by omega)))
          walk_at "rd"
          refine ⟨a, _, rfl, .inr (SqT.of (g10 _ _ ha)), ?_⟩
          rw [vals_len]
          walk_at "rd"
          refine augS_lts (i := i) (k := lefts.length + y) rfl hdr10 (by omega) (by omega) ?_ (G := more GG (c4 lefts rights c (y + 1)) i) (fun j _ => more_step ?_ ?_ ?_ j) ⟨⟨_, _, _, rfl⟩, Same.mut g10 h0dr, by rw [upd_ne ne]; exact hrm10, upd_same⟩
          · unfold more
            rw [List.length_append]
            have h1 := G1 (lefts.length + y)
            have h2 := opt_len (c4 lefts rights c y (lefts.length + y)) i
            omega
          · unfold c4
            rw [decide_eq_false (p := lefts.length + y < lefts.length + y) (by omega), Bool.false_and, Bool.false_and]
          · unfold c4
            rw [show lefts.length + y - lefts.length = y by omega, hly, hw, decide_eq_true hz, decide_eq_true (p := lefts.length + y < lefts.length + (y + 1)) (by omega), decide_eq_true (p := lefts.length ≤ lefts.length + y) (by omega), decide_eq_true rfl]
            rfl
          · intro j hj
            unfold c4
            rw [show decide (j < lefts.length + (y + 1)) = decide (j < lefts.length + y) by rw [Bool.eq_iff_iff]; simp only [decide_eq_true_eq]; omega]
        · (refine iteF ?_ ?_; (· exact veqF (by omega)))
          refine ⟨⟨_, _, _, rfl⟩, g10, hrm10, ?_⟩
          rw [hdr10]
          congr 2
          exact lts_congr fun j _ => more_same (hsame fun h => hw h.2) j
    · rw [vals_len] at p
      obtain ⟨⟨w12, w13, w14, rfl⟩, g9, hrm9, hdr9⟩ := p
      refine ⟨g9, hrm9, ?_, _, _, _, _, _, _, rfl⟩
      rw [hdr9]
      congr 2
      exact lts_congr fun j hj => fG j hj
  · obtain ⟨g4, hrm4, hdr4, y9, y10, y11, y12, y13, y14, rfl⟩ := p4
    refine tail D H4 a m rm dr _ [] (lefts.length + rights.length) _ _ x2 x3 x4 _ x6 y9 y10 y11 y12 y13 y14 x15 x16 x17 x18 x19 x20 (g4 _ _ ha) hsum hrm4 hdr4 (fun p t H5 g5 hp ht => ?_)
    refine q p H5 (g4.trans g5) ⟨⟨t, by rw [hp, vals_len], ?_⟩, by simp [thingsOf], by omega⟩
    rw [ht]
    unfold thingsOf
    rw [List.map_map]
    congr 2
end
end Kl

/-! ## D15 -/
namespace Kl
open PySem PySem.Spec PyProof.Rows L2
local macro_rules | `(tactic| walk_at "rd") => `(tactic| repeat (first | refine ⟨_, rfl, ?_⟩ | refine ⟨_, _, rfl, rfl, ?_⟩ | refine ⟨_, _, rfl, ?_⟩ | refine ⟨rfl, ?_⟩ | refine ⟨Or.inl ⟨by decide, by decide⟩, ?_⟩ | refine ⟨Or.inr ⟨by decide, by decide⟩, ?_⟩ | refine ⟨⟨by decide, by decide⟩, ?_⟩ | refine ⟨by decide, ?_⟩ | refine ⟨show (0 : Int) < _ from by decide, ?_⟩))
section
variable {P : Program} {w : World} {K : PySem.W.Frag} {mg : Str → Option Value} {base : Heap} {f : Addr} {fd : FuncData}
def spLaneBy : Sp := fun vs H Q _ => ∃ (a m : Addr) (lefts rights : List Nat), vs = [.ref a, .ref m] ∧ RowH H a (lefts.map some) ∧ RowH H m (rights.map some) ∧ lefts.length + rights.length ≤ 12 ∧ (∀ v ∈ lefts, v ≤ rights.length) ∧ (∀ v ∈ rights, v ≤ lefts.length) ∧
  ∀ p H' told, Same H H' → ToldOk lefts rights told → told.length = numberFor (lefts.map some) (rights.map some) → told.length ≤ 12 → LaneH H' p lefts.length rights.length (thingsOf lefts rights told) → Q (.ref p) H'
theorem ok_lane_by (T : Bt mg) (G_kinds_of : Has P w K mg base 63 "kinds_of" ["lefts", "rights"] spKindsOf) (F : FnP K "lane_by" s_lane_by f fd) : FnOk P w K mg base CX0 64 f fd ["lefts", "rights"] spLaneBy := by
  refine F.ok sc_lane_by (fun vs H Q E h => ?_) (fun cdv A outer s H vs Q E hr h => ?_)
  · obtain ⟨a, m, lefts, rights, rfl, _⟩ := h
    rfl
  obtain ⟨a, m, lefts, rights, rfl, ha, hm, hsum, hlv, hrv, q⟩ := h
  obtain ⟨t9, TL, tail⟩ := lane_tail5 (P := P) (w := w) (K := K) (base := base) (f := f) (cdv := cdv) (outer := outer) (H := H) (E := E) T hr
  obtain ⟨tK, hKI⟩ := T.ki
  refine ⟨_, PSs.nox (pss_cons (ps_asg (pe_fn G_kinds_of (hr.mono (by decide)) (pa_cons (pv 0) (pa_cons (pv 1) pa_nil))) (pg_tup rfl (pgs_cons (pg_name (i := 2) sc_lane_by.nd rfl (Or.inr rfl)) (pgs_cons (pg_name (i := 3) sc_lane_by.nd rfl (Or.inr rfl)) (pgs_cons (pg_name (i := 4) sc_lane_by.nd rfl (Or.inr rfl)) pgs_nil)))))
  (pss_cons (ps_setLc (i := 5) (own := [("other", 18), ("at", 19)]) (g := (gTup K 2 (gCons (gName 18) (gCons (gName 19) gNil)))) (tt := tYes) rfl sc_lane_by.nd rfl rfl (sw_true rfl rfl rfl (by decide +kernel)) (pi_list (pe_sortedItems (by rfl) T.sorted (pv 4))) (blkOk_by (own := [("other", 18), ("at", 19)]) (N := n_lane_by) (sc := defScope s_lane_by) (by decide +kernel)) (fun _ _ _ _ _ => (pg_tup rfl (pgs_cons (pg_name (i := 18) sc_lane_by.nd rfl (Or.inl rfl)) (pgs_cons (pg_name (i := 19) sc_lane_by.nd rfl (Or.inl rfl)) pgs_nil)))) (fun _ _ _ _ _ => pts_nil) (fun _ _ _ _ _ => (pe_tup (pa_cons (pe_ix (ix_tupK (K := K) rfl) (pe_ix (ix_listK (K := K) rfl) (pv 3) (pv 18) (fun _ _ => rfl)) pe_int (fun _ _ => rfl)) (pa_cons (pe_ix (ix_tupK (K := K) rfl) (pe_ix (ix_listK (K := K) rfl) (pv 2) (pv 19) (fun _ _ => rfl)) pe_int (fun _ _ => rfl)) pa_nil)))))
  (pss_cons (ps_set (i := 6) sc_lane_by.nd rfl (Or.inr rfl) (pe_listVals (by rfl) T.list (pv 4)))
  (pss_cons (ps_set (i := 5) sc_lane_by.nd rfl (Or.inl rfl) (pe_op op_cat (pv 5) (pe_lc (own := [("at", 19), ("value", 13), ("place", 20)]) (g := (gTup K 2 (gCons (gName 19) (gCons (gTup K 2 (gCons (gName 13) (gCons (gName 20) gNil))) gNil)))) rfl sc_lane_by.nd (pi_enum (by rfl) T.enumerate (pa_cons (pv 2) pa_nil)) (blkOk_by (own := [("at", 19), ("value", 13), ("place", 20)]) (N := n_lane_by) (sc := defScope s_lane_by) (by decide +kernel)) (fun _ _ _ _ _ => (pg_tup rfl (pgs_cons (pg_name (i := 19) sc_lane_by.nd rfl (Or.inl rfl)) (pgs_cons (pg_tup rfl (pgs_cons (pg_name (i := 13) sc_lane_by.nd rfl (Or.inl rfl)) (pgs_cons (pg_name (i := 20) sc_lane_by.nd rfl (Or.inl rfl)) pgs_nil))) pgs_nil)))) (fun _ _ _ _ _ => (pts_one (pt_cmpR (op_notIn_seqK (K := K) rfl) (pv 19) (pv 6) (by rfl)))) (fun _ _ _ _ _ => (pe_tup (pa_cons pe_int (pa_cons (pv 13) pa_nil)))))))
  (pss_cons (ps_set (i := 5) sc_lane_by.nd rfl (Or.inl rfl) (pe_op op_cat (pv 5) (pe_lc (own := [("other", 18), ("value", 13), ("place", 20)]) (g := (gTup K 2 (gCons (gName 18) (gCons (gTup K 2 (gCons (gName 13) (gCons (gName 20) gNil))) gNil)))) rfl sc_lane_by.nd (pi_enum (by rfl) T.enumerate (pa_cons (pv 3) pa_nil)) (blkOk_by (own := [("other", 18), ("value", 13), ("place", 20)]) (N := n_lane_by) (sc := defScope s_lane_by) (by decide +kernel)) (fun _ _ _ _ _ => (pg_tup rfl (pgs_cons (pg_name (i := 18) sc_lane_by.nd rfl (Or.inl rfl)) (pgs_cons (pg_tup rfl (pgs_cons (pg_name (i := 13) sc_lane_by.nd rfl (Or.inl rfl)) (pgs_cons (pg_name (i := 20) sc_lane_by.nd rfl (Or.inl rfl)) pgs_nil))) pgs_nil)))) (fun _ _ _ _ _ => (pts_one (pt_cmp (pc_dnotin (hu_of hr) (pv 18) (pv 4))))) (fun _ _ _ _ _ => (pe_tup (pa_cons (pv 13) (pa_cons pe_int pa_nil)))))))
  TL))))), ?_⟩
  walk_at "rd"
  refine ⟨a, m, _, _, rfl, ha, hm, by rw [List.length_map]; omega, by rw [List.length_map]; omega, fun p l r pd H1 g1 hp hgl hgr hpd => ?_⟩
  walk_at "rd"
  refine ⟨p, _, rfl, SqT.of hp, rfl, ?_⟩
  walk_at "rd"
  obtain ⟨xl, hxl, pl⟩ := hgl
  obtain ⟨xr, hxr, pr⟩ := hgr
  have gl := groups_ok lefts
  have gr := groups_ok rights
  have tall := fun qs => told_all (lefts := lefts) (rights := rights) (qs := qs)
  have tok := tableOf_ok (groupsOf (lefts.map some)) (groupsOf (rights.map some))
  have tl := tableOf_len (groupsOf (lefts.map some)) (groupsOf (rights.map some))
  have ok := partnersUpTo_ok tok (tableOf (groupsOf (lefts.map some)) (groupsOf (rights.map some))).length (Nat.le_refl _)
  change AugOk (groupsOf (rights.map some)).length (tableOf (groupsOf (lefts.map some)) (groupsOf (rights.map some))).length [] (partnersOf (tableOf (groupsOf (lefts.map some)) (groupsOf (rights.map some)))) at ok
  rw [tl] at ok
  have hnum : numberFor (lefts.map some) (rights.map some) ≤ 12 := by
    unfold numberFor
    have h1 := gl.len
    have h2 := gr.len
    omega
  generalize hnn : numberFor (lefts.map some) (rights.map some) = num at tall hnum q
  generalize hPP : partnersOf (tableOf (groupsOf (lefts.map some)) (groupsOf (rights.map some))) = M at hpd ok tall
  have ll := paired_len pl
  have lr := paired_len pr
  have hML : M.length ≤ 12 := by
    have := nodup_le ok.pn (n := (groupsOf (rights.map some)).length) fun x hx => by
      obtain ⟨z, hz, rfl⟩ := List.mem_map.mp hx
      exact (ok.pr z hz).1
    rw [List.length_map] at this
    have := gr.len
    omega
  have lm : ∀ i, i < (groupsOf (lefts.map some)).length → ∃ v p, (groupsOf (lefts.map some))[i]? = some (some v, p) := fun i hi => by
    obtain ⟨v, p, e, _⟩ := gl.mem _ (List.getElem_mem hi)
    exact ⟨v, p, by rw [List.getElem?_eq_getElem hi, e]⟩
  have rm : ∀ i, i < (groupsOf (rights.map some)).length → ∃ v p, (groupsOf (rights.map some))[i]? = some (some v, p) := fun i hi => by
    obtain ⟨v, p, e, _⟩ := gr.mem _ (List.getElem_mem hi)
    exact ⟨v, p, by rw [List.getElem?_eq_getElem hi, e]⟩
  have gll := gl.len
  have grl := gr.len
  -- the shared kinds
  refine ⟨pd, M.map toI, rfl, by rw [List.map_map]; exact hpd, fun H2 ls as qs0 g2 _ hqs hls pas => ?_⟩
  obtain ⟨qs, rfl, hqs2⟩ := perm_toI hqs
  have tall := tall qs hqs2
  have lq := hqs2.length_eq
  have la := paired_len pas
  rw [List.length_map] at la
  refine ⟨ls, rfl, ⟨_, SqL.of hls⟩, ?_⟩
  intro D hD
  refine lc_rep walk_list repI repI_mono (fun i => (qs[i]?).bind fun q => some (valAt (groupsOf (rights.map some)) q.1, valAt (groupsOf (lefts.map some)) q.2)) hD (by rw [List.length_map]; exact sz100 (by omega)) (fun H3 g3 => SqL.of (g3 _ _ hls)) ?_ ?_
  · rintro i x H3 H4 R R0 hi g3 ⟨rfl, hx⟩ k k0
    have hx : (as.map V.ref)[i]? = some x := hx
    rw [List.getElem?_map] at hx
    obtain ⟨ai, hai⟩ := get_ex (xs := as) (i := i) (by simpa using hi)
    rw [hai] at hx
    obtain rfl := Option.some.inj hx
    obtain ⟨qq, hq1, hq2⟩ := paired_get pas hai
    rw [List.getElem?_map] at hq1
    obtain ⟨⟨o, at9⟩, hqi⟩ := get_ex (xs := qs) (i := i) (by simp at hi; omega)
    rw [hqi] at hq1
    obtain rfl := Option.some.inj hq1
    rw [hqi] at k
    obtain ⟨ho, hat⟩ := ok.pr _ (hqs2.mem_iff.mp (List.mem_of_getElem? hqi))
    obtain ⟨v, pv9, hv⟩ := rm o ho
    obtain ⟨u, pu9, hu⟩ := lm at9 hat
    obtain ⟨vr, hvr, cr, rfl, hcr⟩ := paired_at pr hv
    obtain ⟨vl, hvl, cl, rfl, hcl⟩ := paired_at pl hu
    have g23 := g2.trans g3
    refine ⟨ai, _, rfl, SqT.of (g3 _ _ hq2), rfl, ?_⟩
    walk_at "rd"
    refine ⟨r, _, _, _, rfl, rfl, SqL.of (g23 _ _ hxr), at_of (j := o) rfl hvr, ?_⟩
    walk_at "rd"
    refine ⟨cr, _, _, _, rfl, rfl, SqT.of (g23 _ _ hcr), rfl, ?_⟩
    walk_at "rd"
    refine ⟨l, _, _, _, rfl, rfl, SqL.of (g23 _ _ hxl), at_of (j := at9) rfl hvl, ?_⟩
    walk_at "rd"
    refine ⟨cl, _, _, _, rfl, rfl, SqT.of (g23 _ _ hcl), rfl, ?_⟩
    walk_at "rd"
    refine ⟨by simp [sizeLine], fun t9 ht9 => ?_⟩
    refine k _ _ _ rfl (same_new ht9 _) ⟨t9, rfl, ?_⟩
    rw [upd_same]
    simp only [val_of hv, val_of hu]
    rfl
  intro H3 us1 g3 hus1 pr1
  have efin : (List.range (as.map V.ref).length).filterMap (fun i => (qs[i]?).bind fun q => some (valAt (groupsOf (rights.map some)) q.1, valAt (groupsOf (lefts.map some)) q.2)) = qs.map fun q => (valAt (groupsOf (rights.map some)) q.1, valAt (groupsOf (lefts.map some)) q.2) := by
    rw [List.length_map, la, range_bind]
    rw [List.filterMap_eq_map']
  rw [efin] at pr1
  have g13 := g2.trans g3
  walk_at "rd"
  refine ⟨pd, M.map toI, rfl, by rw [List.map_map]; exact g13 _ _ hpd, fun sh hsh => ?_⟩
  have g4 := same_new hsh (HO.lst ((M.map toI).map fun p => V.int p.2))
  have hsh4 : (upd H3 sh (HO.lst ((M.map toI).map fun p => V.int p.2))) sh = some (.lst ((M.map toI).map fun p => V.int p.2)) := upd_same
  generalize upd H3 sh (HO.lst ((M.map toI).map fun p => V.int p.2)) = H4 at g4 hsh4 ⊢
  have g14 := g13.trans g4
  walk_at "rd"
  refine ⟨l, _, rfl, SqL.of (g14 _ _ hxl), ?_⟩
  intro D2 hD2
  refine lc_rep walk_enum repI repI_mono (fun i => if (!(M.map (·.2)).contains i) = true then some (0, valAt (groupsOf (lefts.map some)) i) else none) hD2 (sz100 (by omega)) (fun H5 g5 => SqL.of ((g14.trans g5) _ _ hxl)) ?_ ?_
  · rintro i x H5 H6 R R0 hi g5 ⟨t1, u, v, rfl, ht1, rfl, hu, hv⟩ k k0
    obtain rfl := Option.some.inj hu
    obtain ⟨w9, p9, hw9⟩ := lm i (by omega)
    obtain ⟨v2, hv2, c, rfl, hc⟩ := paired_at pl hw9
    have hv : xl[i]? = some v := hv
    rw [hv2] at hv
    obtain rfl := Option.some.inj hv
    have s1 := same_new ht1 (HO.tup [V.int (i : Nat), V.ref c])
    have hc6 := ((g14.trans g5).trans s1) _ _ hc
    refine ⟨t1, _, rfl, SqT.of upd_same, rfl, ?_⟩
    walk_at "rd"
    refine ⟨c, _, rfl, SqT.of hc6, rfl, ?_⟩
    refine ⟨_, _, rfl, _, _, rfl, rfl, rfl, ?_, ?_⟩
    · simp only [List.map]
      rw [wipe_set (by simp), wipe_set (by simp), wipe_set (by simp), wipe_wipe]
    walk_at "rd"
    refine ⟨sh, _, rfl, .inl (SqL.of ((g5.trans s1) _ _ hsh4)), rfl, by simp [flatV], ?_⟩
    rw [inV_snd]
    walk_at "rd"
    by_cases hf : (!(M.map (·.2)).contains i) = true
    · (refine iteT ?_ ?_; (· exact hf))
      walk_at "rd"
      refine ⟨by simp [sizeLine], fun t9 ht9 => ?_⟩
      refine k _ _ _ (if_pos hf) (s1.trans (same_new ht9 _)) ⟨t9, rfl, ?_⟩
      rw [upd_same]
      simp only [val_of hw9]
      rfl
    · (refine iteF ?_ ?_; (· exact Bool.eq_false_iff.mpr hf))
      exact k0 _ (if_neg hf) s1
  intro H5 us2 g5 hus2 pr2
  rw [ll, filter_map_g] at pr2
  walk_at "rd"
  refine ⟨D, D2, us1, us2, rfl, rfl, (g4.trans g5) _ _ hus1, hus2, ?_, fun D3 hD3 => ?_⟩
  · have e1 := paired_len pr1
    have e2 := paired_len pr2
    have e3 := List.length_filter_le (fun a => !(M.map (·.2)).contains a) (List.range (groupsOf (lefts.map some)).length)
    simp only [List.length_map, List.length_range] at e1 e2 e3
    exact Nat.le_of_lt (sz100 (by omega))
  have g6 := same_new hD3 (HO.lst (us1 ++ us2))
  have pr3 : Paired (repI (upd H5 D3 (HO.lst (us1 ++ us2)))) (us1 ++ us2) _ := paired_app (paired_mono pr1 fun _ _ => repI_mono (Same.t ((g4.trans g5).trans g6))) (paired_mono pr2 fun _ _ => repI_mono (Same.t g6))
  have hus3 : (upd H5 D3 (HO.lst (us1 ++ us2))) D3 = some (.lst (us1 ++ us2)) := upd_same
  generalize upd H5 D3 (HO.lst (us1 ++ us2)) = H6 at g6 pr3 hus3 ⊢
  generalize us1 ++ us2 = us3 at pr3 hus3 ⊢
  have g16 := (g14.trans g5).trans g6
  walk_at "rd"
  refine ⟨r, _, rfl, SqL.of (g16 _ _ hxr), ?_⟩
  intro D4 hD4
  refine lc_rep walk_enum repI repI_mono (fun i => if (lookP M i).isNone = true then some (valAt (groupsOf (rights.map some)) i, 0) else none) hD4 (sz100 (by omega)) (fun H5 g5 => SqL.of ((g16.trans g5) _ _ hxr)) ?_ ?_
  · rintro i x H7 H8 R R0 hi g7 ⟨t1, u, v, rfl, ht1, rfl, hu, hv⟩ k k0
    obtain rfl := Option.some.inj hu
    obtain ⟨w9, p9, hw9⟩ := rm i (by omega)
    obtain ⟨v2, hv2, c, rfl, hc⟩ := paired_at pr hw9
    have hv : xr[i]? = some v := hv
    rw [hv2] at hv
    obtain rfl := Option.some.inj hv
    have s1 := same_new ht1 (HO.tup [V.int (i : Nat), V.ref c])
    have hc6 := ((g16.trans g7).trans s1) _ _ hc
    refine ⟨t1, _, rfl, SqT.of upd_same, rfl, ?_⟩
    walk_at "rd"
    refine ⟨c, _, rfl, SqT.of hc6, rfl, ?_⟩
    refine ⟨_, _, rfl, _, _, rfl, rfl, rfl, ?_, ?_⟩
    · simp only [List.map]
      rw [wipe_set (by simp), wipe_set (by simp), wipe_set (by simp), wipe_wipe]
    walk_at "rd"
    refine ⟨pd, _, rfl, DGet.k (k := iK i) (((g16.trans g7).trans s1) _ _ hpd), ?_⟩
    rw [val_kP]
    cases hf : lookP M i with
    | none =>
      walk_at "rd"
      refine ⟨by simp [sizeLine], fun t9 ht9 => ?_⟩
      refine k _ _ _ (if_pos (by rw [hf]; rfl)) (s1.trans (same_new ht9 _)) ⟨t9, rfl, ?_⟩
      rw [upd_same]
      simp only [val_of hw9]
      rfl
    | some b9 =>
      walk_at "rd"
      exact k0 _ (if_neg (by rw [hf]; simp)) s1
  intro H7 us4 g7 hus4 pr4
  rw [lr, filter_map_g] at pr4
  walk_at "rd"
  refine ⟨D3, D4, us3, us4, rfl, rfl, g7 _ _ hus3, hus4, ?_, fun td htd => ?_⟩
  · have e1 := paired_len pr3
    have e2 := paired_len pr4
    have e3 := List.length_filter_le (fun a => !(M.map (·.2)).contains a) (List.range (groupsOf (lefts.map some)).length)
    have e4 := List.length_filter_le (fun o => (lookP M o).isNone) (List.range (groupsOf (rights.map some)).length)
    simp only [List.length_append, List.length_map, List.length_range] at e1 e2 e3 e4
    exact Nat.le_of_lt (sz100 (by omega))
  have g8 := same_new htd (HO.lst (us3 ++ us4))
  have prt : Paired (repI (upd H7 td (HO.lst (us3 ++ us4)))) (us3 ++ us4) (toldOf (groupsOf (lefts.map some)) (groupsOf (rights.map some)) qs M) :=
    paired_app (paired_mono pr3 fun _ _ => repI_mono (Same.t (g7.trans g8))) (paired_mono pr4 fun _ _ => repI_mono (Same.t g8))
  have htl : (upd H7 td (HO.lst (us3 ++ us4))) td = some (.lst (us3 ++ us4)) := upd_same
  generalize upd H7 td (HO.lst (us3 ++ us4)) = H8 at g8 prt htl ⊢
  generalize us3 ++ us4 = ust at prt htl ⊢
  obtain ⟨tdok, tdlen⟩ := tall
  generalize toldOf (groupsOf (lefts.map some)) (groupsOf (rights.map some)) qs M = told at prt tdok tdlen
  have ga8 := (g1.trans g16).trans (g7.trans g8)
  have ha8 := RowH.mono ha (Same.t ga8)
  have hm8 := RowH.mono hm (Same.t ga8)
  refine tail _ H8 a m td lefts rights told _ _ _ _ _ _ _ _ _ _ _ _ _ _ _ _ _ _ ha8 hm8 ⟨ust, htl, prt⟩ (by omega) hsum (fun c hc => ⟨?_, ?_⟩) (fun p H' g L => ?_)
  · by_cases h0 : c.1 = 0
    · omega
    · exact hrv _ (tdok.fst c hc h0)
  · by_cases h0 : c.2 = 0
    · omega
    · exact hlv _ (tdok.snd c hc h0)
  · exact q p H' told (ga8.trans g) tdok tdlen (by omega) L
end
end Kl

/-! ## D16 -/
namespace Kl
open PySem PySem.Spec PyProof.Rows L2
local macro_rules | `(tactic| walk_at "rd") => `(tactic| repeat (first | refine ⟨_, rfl, ?_⟩ | refine ⟨_, _, rfl, rfl, ?_⟩ | refine ⟨_, _, rfl, ?_⟩ | refine ⟨rfl, ?_⟩ | refine ⟨Or.inl ⟨by decide, by decide⟩, ?_⟩ | refine ⟨Or.inr ⟨by decide, by decide⟩, ?_⟩ | refine ⟨⟨by decide, by decide⟩, ?_⟩ | refine ⟨by decide, ?_⟩ | refine ⟨show (0 : Int) < _ from by decide, ?_⟩))
theorem RegOk.le {g : Reg} {W T W' T' : Nat} (h : RegOk g W T) (hw : W ≤ W') (ht : T ≤ T') : RegOk g W' T' :=
  ⟨h.pos, Nat.le_trans h.wide hw, h.first, fun i hi => ⟨(h.col i hi).1, Nat.le_trans (h.col i hi).2 ht⟩, h.step⟩
theorem leftsOf_le {g : Reg} {W T : Nat} (ok : RegOk g W T) : ∀ v ∈ leftsOf g, v ≤ (rightsOf g).length := by
  intro v hv
  obtain ⟨x, hx, rfl⟩ := List.mem_map.mp hv
  have hx := List.mem_range.mp hx
  rw [rights_len]
  have h1 := (ok.col (x + 1) (by omega)).1
  have h2 : hi g (x + 1) ≤ rightOf g := hi_mono ok _ _ (by omega) (by have := ok.pos; omega)
  split <;> omega
theorem rightsOf_le {g : Reg} {W T : Nat} (ok : RegOk g W T) : ∀ v ∈ rightsOf g, v ≤ (leftsOf g).length := by
  intro v hv
  obtain ⟨y, hy, rfl⟩ := List.mem_map.mp hv
  have hy := List.mem_range.mp hy
  rw [lefts_len]
  have h1 := (first_lt ok hy).1
  split <;> omega
section
variable {P : Program} {w : World} {K : PySem.W.Frag} {mg : Str → Option Value} {base : Heap} {f : Addr} {fd : FuncData}
abbrev n_lane_of : List Str := ["region", "lefts", "rights"]
theorem sc_lane_of : FnScope n_lane_of ["region"] (defScope s_lane_of) := ⟨rfl, rfl, rfl, by decide +kernel, rfl, by decide +kernel, by decide +kernel⟩
def spLaneOf : Sp := fun vs H Q _ => ∃ (a : Addr) (g : Reg), vs = [.ref a] ∧ RegH H a g ∧ RegOk g 7 6 ∧
  ∀ p H' told, Same H H' → ToldOk (leftsOf g) (rightsOf g) told → told.length = numberFor ((leftsOf g).map some) ((rightsOf g).map some) → told.length ≤ 12 → LaneH H' p (leftsOf g).length (rightsOf g).length (thingsOf (leftsOf g) (rightsOf g) told) → Q (.ref p) H'
theorem ok_lane_of (G_need_region : Has P w K mg base 4 "need_region" ["value"] spNeedRegion) (G_rows_for : Has P w K mg base 2 "rows_for" ["region"] spRowsFor) (G_lane_by : Has P w K mg base 64 "lane_by" ["lefts", "rights"] spLaneBy) (F : FnP K "lane_of" s_lane_of f fd) : FnOk P w K mg base CX0 65 f fd ["region"] spLaneOf := by
  refine F.ok sc_lane_of (fun vs H Q E h => ?_) (fun cdv A outer s H vs Q E hr h => ?_)
  · obtain ⟨a, g, rfl, hg, ok, q⟩ := h
    rfl
  obtain ⟨a, g, rfl, hg, ok, q⟩ := h
  refine ⟨_, (pss_cons (ps_expr (pe_fn G_need_region (hr.mono (by decide)) (pa_cons (pv 0) pa_nil)))
  (pss_cons (ps_asg (pe_fn G_rows_for (hr.mono (by decide)) (pa_cons (pv 0) pa_nil)) (pg_tup rfl (pgs_cons (pg_name (i := 1) sc_lane_of.nd rfl (Or.inl rfl)) (pgs_cons (pg_name (i := 2) sc_lane_of.nd rfl (Or.inl rfl)) pgs_nil))))
  (pss_one (ps_ret (pe_fn G_lane_by (hr.mono (by decide)) (pa_cons (pv 1) (pa_cons (pv 2) pa_nil))))))), ?_⟩
  have ok60 : RegOk g 60 59 := ok.le (by decide) (by decide)
  walk_at "rd"
  refine ⟨a, g, rfl, hg, ok60, fun H1 g1 => ?_⟩
  walk_at "rd"
  refine ⟨a, g, rfl, RegH.mono hg (Same.t g1), ok60, fun p l m H2 g2 hp hl hm => ?_⟩
  walk_at "rd"
  refine ⟨p, _, rfl, SqT.of hp, rfl, ?_⟩
  walk_at "rd"
  have h1 := ok.wide
  have h2 := ok.pos
  have hr6 : rightOf g ≤ 6 := (ok.col (g.length - 1) (by omega)).2
  exact ⟨l, m, _, _, rfl, hl, hm, by rw [lefts_len, rights_len]; omega, leftsOf_le ok, rightsOf_le ok, fun p3 H3 told g3 t1 t2 t3 L => q p3 H3 told (g1.trans (g2.trans g3)) t1 t2 t3 L⟩
end
end Kl

/-! ## KlComp2 -/
/-! a dict comprehension of two clauses -/
namespace Kl
open PySem PySem.Spec PyProof.Rows L2
open PySem PySem.Spec PyProof.Rows

section
variable {prog : Program} {w : World} {A : Around} {R : Result → Shared → Prop} {s : Shared} {kx vx t0 i0 t1 i1 : Expr} {ifs0 ifs1 : List Expr} {scope : Scope} {pos : Pos} {it acc : Value} {env : Env}
/-- the loop of the first clause -/
theorem loopD_out (hs : ∀ x, foldedSetIterable i1 env x = pure x) (I : Nat → Shared → Prop)
    (turn : ∀ n s, I n s → wpAny (model prog w) A (pyNext it) (fun r s₁ => match r with
      | none => R (.ok .next) s₁
      | some v => wpAny (model prog w) A (letOwnedTupleGo t0 it v) (fun _ s₁' => wpAny (model prog w) A (assign t0 env v) (fun _ s₂ =>
          wpAny (model prog w) A (forIn ifs0 true fun c r => if r = true then do let ok ← isTrue c env (eval c env); pure (ForInStep.yield ok) else pure (ForInStep.yield r)) (fun ok s₃ =>
            if ok = true then wpAny (model prog w) A (eval i1 env) (fun x s₄ => wpAny (model prog w) A (pyIter x) (fun it1 s₅ =>
              codeAny (model prog w) A (.compStart (.DictComp kx vx [⟨t0, i0, ifs0, 0⟩, ⟨t1, i1, ifs1, 0⟩] scope pos) 1 it1 acc env) (fun r s' => match r with
                | .ok _ => ∃ m, m < n ∧ I m s'
                | .error _ => False) s₅) (notedBy (model prog w) A env fun e s' => R (.error e) s') s₄) (notedBy (model prog w) A env fun e s' => R (.error e) s') s₃
            else ∃ m, m < n ∧ I m s₃) (notedBy (model prog w) A env fun e s' => R (.error e) s') s₂) (notedBy (model prog w) A env fun e s' => R (.error e) s') s₁') (notedBy (model prog w) A env fun e s' => R (.error e) s') s₁) (notedBy (model prog w) A env fun e s' => R (.error e) s') s)
    (n : Nat) (h : I n s) :
    codeAny (model prog w) A (.compLoop (.DictComp kx vx [⟨t0, i0, ifs0, 0⟩, ⟨t1, i1, ifs1, 0⟩] scope pos) 0 it acc env) R s := by
  refine codeAny_loop rfl I (fun n s hI => ?_) n h
  show wpAny _ A ((compTurn (.DictComp kx vx [⟨t0, i0, ifs0, 0⟩, ⟨t1, i1, ifs1, 0⟩] scope pos) 0 it acc env).onRaise (fun x => do noteFrame x env; theTreesLotGoes x)) _ _ s
  refine wpAny_noted ?_
  unfold compTurn
  refine wpAny_bind (wpAny_standAt (wpAny_bind (wpAny_mono (turn n s hI) (fun r s₁ h₁ => ?_) fun _ _ h' => h')))
  cases r with
  | none => exact wpAny_pure h₁
  | some v =>
    refine wpAny_bind (wpAny_mono h₁ (fun _ s₁' h₁' => ?_) fun _ _ h' => h')
    refine wpAny_bind (wpAny_mono h₁' (fun _ s₂ h₂ => wpAny_bind (wpAny_mono h₂ (fun ok s₃ h₃ => ?_) fun _ _ h' => h')) fun _ _ h' => h')
    cases ok with
    | false => exact wpAny_pure ⟨rfl, h₃⟩
    | true =>
      refine wpAny_bind (wpAny_mono h₃ (fun x s₄ h₄ => ?_) fun _ _ h' => h')
      refine wpAny_bind (wpAny_standAt (wpAny_bind (wpAny_of_eq (hs x) (wpAny_bind (wpAny_holding (wpAny_mono h₄ (fun it1 s₅ h₅ => ?_) fun _ _ h' => h'))))))
      refine wpAny_bind (wpAny_runOwn ?_)
      rw [Around.mark_none]
      refine codeAny_mono h₅ fun r s' hr => ?_
      cases r with
      | ok f =>
        first
          | exact wpAny_pure ⟨rfl, hr⟩
          | exact wpAny_bind (wpAny_pure (wpAny_pure ⟨rfl, hr⟩))
      | error e => exact hr.elim
/-- the loop of the second -/
theorem loopD_in {D : Addr} (I : Nat → Shared → Prop)
    (turn : ∀ n s, I n s → wpAny (model prog w) A (pyNext it) (fun r s₁ => match r with
      | none => R (.ok .next) s₁
      | some v => wpAny (model prog w) A (letOwnedTupleGo t1 it v) (fun _ s₁' => wpAny (model prog w) A (assign t1 env v) (fun _ s₂ =>
          wpAny (model prog w) A (forIn ifs1 true fun c r => if r = true then do let ok ← isTrue c env (eval c env); pure (ForInStep.yield ok) else pure (ForInStep.yield r)) (fun ok s₃ =>
            if ok = true then wpAny (model prog w) A (eval kx env) (fun kv s₄ => wpAny (model prog w) A (eval vx env) (fun vv s₅ =>
              wpAny (model prog w) A (dictSet D kv vv) (fun _ s₆ => ∃ m, m < n ∧ I m s₆) (notedBy (model prog w) A env fun e s' => R (.error e) s') s₅) (notedBy (model prog w) A env fun e s' => R (.error e) s') s₄) (notedBy (model prog w) A env fun e s' => R (.error e) s') s₃
            else ∃ m, m < n ∧ I m s₃) (notedBy (model prog w) A env fun e s' => R (.error e) s') s₂) (notedBy (model prog w) A env fun e s' => R (.error e) s') s₁') (notedBy (model prog w) A env fun e s' => R (.error e) s') s₁) (notedBy (model prog w) A env fun e s' => R (.error e) s') s)
    (n : Nat) (h : I n s) :
    codeAny (model prog w) A (.compLoop (.DictComp kx vx [⟨t0, i0, ifs0, 0⟩, ⟨t1, i1, ifs1, 0⟩] scope pos) 1 it (.ref D) env) R s := by
  refine codeAny_loop rfl I (fun n s hI => ?_) n h
  show wpAny _ A ((compTurn (.DictComp kx vx [⟨t0, i0, ifs0, 0⟩, ⟨t1, i1, ifs1, 0⟩] scope pos) 1 it (.ref D) env).onRaise (fun x => do noteFrame x env; theTreesLotGoes x)) _ _ s
  refine wpAny_noted ?_
  unfold compTurn
  refine wpAny_bind (wpAny_standAt (wpAny_bind (wpAny_mono (turn n s hI) (fun r s₁ h₁ => ?_) fun _ _ h' => h')))
  cases r with
  | none => exact wpAny_pure h₁
  | some v =>
    refine wpAny_bind (wpAny_mono h₁ (fun _ s₁' h₁' => ?_) fun _ _ h' => h')
    refine wpAny_bind (wpAny_mono h₁' (fun _ s₂ h₂ => wpAny_bind (wpAny_mono h₂ (fun ok s₃ h₃ => ?_) fun _ _ h' => h')) fun _ _ h' => h')
    cases ok with
    | false => exact wpAny_pure ⟨rfl, h₃⟩
    | true =>
      exact wpAny_bind (wpAny_bind (wpAny_mono h₃ (fun kv s₄ h₄ => wpAny_bind (wpAny_holding (wpAny_mono h₄ (fun vv s₅ h₅ => wpAny_bind (wpAny_standAt (wpAny_holding (wpAny_mono h₅ (fun _ s₆ h₆ => wpAny_pure ⟨rfl, h₆⟩) fun _ _ h' => h')))) fun _ _ h' => h'))) fun _ _ h' => h'))
/-- the second clause's start -/
theorem startD1 (h0 : codeAny (model prog w) A (.compLoop (.DictComp kx vx [⟨t0, i0, ifs0, 0⟩, ⟨t1, i1, ifs1, 0⟩] scope pos) 1 it acc env) R s)
    (h : wpAny (model prog w) A (pyIter it) (fun it' s' => codeAny (model prog w) A (.compLoop (.DictComp kx vx [⟨t0, i0, ifs0, 0⟩, ⟨t1, i1, ifs1, 0⟩] scope pos) 1 it' acc env) R s')
      (notedBy (model prog w) A env fun x s' => R (.error x) s') s) :
    codeAny (model prog w) A (.compStart (.DictComp kx vx [⟨t0, i0, ifs0, 0⟩, ⟨t1, i1, ifs1, 0⟩] scope pos) 1 it acc env) R s := by
  refine codeAny_of_tree ?_
  show wpAny _ _ ((compStart (.DictComp kx vx [⟨t0, i0, ifs0, 0⟩, ⟨t1, i1, ifs1, 0⟩] scope pos) 1 it acc env).onRaise (fun x => do noteFrame x env; standAt theWindowsPlace)) _ _ s
  refine wpAny_notedAt ?_
  unfold compStart
  show wpAny _ _ (ask >>= _) _ _ s
  refine wpAny_bind (wpAny_askSetting (wpAny_ite ?_))
  split
  · first
      | exact wpAny_bind (wpAny_pure (wpAny_pure (And.intro rfl h0)))
      | exact wpAny_pure (And.intro rfl h0)
  · first
      | exact wpAny_bind (wpAny_rule (wpAny_bind (wpAny_standAt (wpAny_bind (wpAny_mono h (fun it' s' h' => wpAny_pure (And.intro rfl h')) fun _ _ x => x)))))
      | (refine wpAny_bind (wpAny_rule ?_); show wpAny _ _ (standAt i1.pos >>= _) _ _ s; exact wpAny_bind (wpAny_standAt (wpAny_bind (wpAny_mono h (fun it' s' h' => wpAny_pure (And.intro rfl h')) fun _ _ x => x))))
end
section
variable {X : Cx}
/-- {k: v for tg in iter if .. for tg1 in iter1 if ..}, keys ints or texts -/
def tDc2 (wi : TI) (g : TG) (tt : TT) (wi1 : TI) (g1 : TG) (tt1 : TT) (tk tv : TE) (vs vs1 : List Nat) : TE := fun σ H Q => wi σ H fun J H1 => ∀ D, H1 D = none → ∃ W : Nat → Nat → Hp → Prop, (∃ m, W 0 m (upd H1 D (.dK []))) ∧ ∀ i m H, W i m H →
  (J.stop i H ∧ Q (.ref D) H) ∨ (J.go i H ∧ ∃ Nx : Hp → Prop, (∀ H', Nx H' → ∃ m', m' < m ∧ W (i + 1) m' H') ∧ ∀ x H', J.yld i H x H' → g x (wipe σ vs) H' fun σ2 H2 => wipe σ2 vs = wipe σ vs ∧ tt σ2 H2 fun b H3 =>
    if b = true then wi1 σ2 H3 fun J1 H4 => ∃ W1 : Nat → Nat → Hp → Prop, (∃ m, W1 0 m H4) ∧ ∀ j k H, W1 j k H →
      (J1.stop j H ∧ Nx H) ∨ (J1.go j H ∧ ∃ Nx1 : Hp → Prop, (∀ H', Nx1 H' → ∃ k', k' < k ∧ W1 (j + 1) k' H') ∧ ∀ x H', J1.yld j H x H' → g1 x (wipe σ2 vs1) H' fun σ3 H5 => wipe σ3 vs1 = wipe σ2 vs1 ∧ tt1 σ3 H5 fun b H6 =>
        if b = true then tk σ3 H6 fun y H7 => tv σ3 H7 fun z H8 => ∃ kvs k, y = kV k ∧ H8 D = some (.dK kvs) ∧ kvs.length < sizeLine ∧ Nx1 (upd H8 D (.dK (putK kvs k z))) else Nx1 H6)
    else Nx H3)
theorem dc2_core {pins : List (Addr × Obj)} {s : Shared} {σ : L2.St} {H : Hp} {Q : VK} {kx vx tg iter tg1 iter1 : Expr} {ifs ifs1 : List Expr} {scope : Scope} {own : List (Str × Nat)} {vs1 : List Nat} {pos pos' : Pos} {wi wi1 : TI} {g g1 : TG} {tt tt1 : TT} {tk tv : TE} {use : Option (Value → Sem Unit)} {Qf : Value → Shared → Prop}
    (hc : X.calm = true) (hN : X.N.Nodup) (I : Inv X pins σ H s) (hi : PI X tg iter wi) (ok : BlkOk X.N X.env.scope scope own) (hv : ∀ i ∈ vs1, i ∈ own.map (·.2))
    (hg : ∀ (s : Shared) (H : Hp) (C : Addr) (cl : List (Str × Addr)) (fp : List Addr), PG (X.blk s H scope (compEnvC scope cl C X.env) fp) tg g) (ht : ∀ (s : Shared) (H : Hp) (C : Addr) (cl : List (Str × Addr)) (fp : List Addr), PTs (X.blk s H scope (compEnvC scope cl C X.env) fp) ifs tt)
    (hk : ∀ (s : Shared) (H : Hp) (C : Addr) (cl : List (Str × Addr)) (fp : List Addr), PE (X.blk s H scope (compEnvC scope cl C X.env) fp) kx tk)
    (he : ∀ (s : Shared) (H : Hp) (C : Addr) (cl : List (Str × Addr)) (fp : List Addr), PE (X.blk s H scope (compEnvC scope cl C X.env) fp) vx tv) (hs : ∀ x, foldedSetIterable iter X.env x = pure x)
    (hi1 : ∀ (s : Shared) (H : Hp) (C : Addr) (cl : List (Str × Addr)) (fp : List Addr), PI (X.blk s H scope (compEnvC scope cl C X.env) fp) tg1 iter1 wi1)
    (hg1 : ∀ (s : Shared) (H : Hp) (C : Addr) (cl : List (Str × Addr)) (fp : List Addr), PG (X.blk s H scope (compEnvC scope cl C X.env) fp) tg1 g1)
    (ht1 : ∀ (s : Shared) (H : Hp) (C : Addr) (cl : List (Str × Addr)) (fp : List Addr), PTs (X.blk s H scope (compEnvC scope cl C X.env) fp) ifs1 tt1)
    (hs1 : ∀ env x, foldedSetIterable iter1 env x = pure x)
    (h : tDc2 wi g tt wi1 g1 tt1 tk tv (own.map (·.2)) vs1 σ H Q)
    (hRR : ∀ D C s' m H', Inv X pins σ H' s' → Q (.ref D) H' → s'.heap.Ns C m → FpOk X pins H' C → compPost (model X.prog X.w) X.A X.xe use Qf (.ref D) C (.ok .next) s') :
    wpAny (model X.prog X.w) X.A (comprehension (.DictComp kx vx [⟨tg, iter, ifs, 0⟩, ⟨tg1, iter1, ifs1, 0⟩] scope pos) scope X.env pos' (newDict) false (eval iter X.env) use) Qf X.xe s := by
  have hfree : ∀ y ∈ scope.names, y.2 = .free → ∃ c, X.env.cells.lookup y.1 = some c := fun y hy e => by
    rcases ok.free y hy e with k | k
    · exact I.ok.has _ (.inl k)
    · exact I.ok.has _ (.inr k)
  refine wpAny_comprehension_free (use := use) rfl hs (closure_ok hfree) ok.kind (fun y hy e => by rw [ok.uniq y hy, e])
    (thn (hi.run pins s σ H _ I h) fun xv s1 hx => thn hx fun itv s2 h2 => ?_)
  obtain ⟨it, fp, tn, J, H2, e, I2, T, st2, f2, q⟩ := h2
  subst e
  refine wpAny_newObj_type (newEnv_comp ?_)
  generalize hD : s2.heap.objs.size = D
  have hDn : H2 D = none := I2.hok.fresh (Nat.le_of_eq hD)
  obtain ⟨W, ⟨m0, w0⟩, turn⟩ := q D hDn
  -- the new list
  generalize hs3 : ({ s2 with heap := s2.heap.push { cls := .type "dict", data := .dict #[] } } : Shared) = s3
  have I3 : Inv X pins σ (upd H2 D (.dK [])) s3 := by
    rw [← hs3]
    refine I2.laid (t' := s2.toks) (fun b o e => Heap.get?_push_of_some _ e) (Nat.le_of_eq hD) ?_
    rw [← hD]
    exact dk_empty s2.heap I2.big
  have h3 : s3.heap = s2.heap.push { cls := .type "dict", data := .dict #[] } := by rw [← hs3]
  have sz : ∀ b ∈ fp, b < s2.heap.objs.size := fun b hb => by
    obtain ⟨o, e, _⟩ := T.obj _ _ st2 b hb
    exact Heap.lt_size e
  have f3 : ∀ b ∈ fp, FpOk X pins (upd H2 D (.dK [])) b ∧ b < s3.heap.objs.size := fun b hb => by
    have hlt := sz b hb
    refine ⟨⟨?_, (f2 b hb).2⟩, by rw [h3, Heap.size_push]; exact Nat.lt_succ_of_lt hlt⟩
    rw [upd_ne (by rw [← hD]; exact Nat.ne_of_lt hlt)]
    exact (f2 b hb).1
  have st3 : tn 0 s3.heap := T.keep _ _ _ st2 fun b _ o e => by rw [h3]; exact Heap.get?_push_of_some _ e
  have I4 := block_start I3 ok hN f3
  have pg := hg s3 (upd H2 D (.dK [])) s3.heap.objs.size (cellsFrom (s3.heap.objs.size + 1) scope.names (cloFrom X.env.cells scope.names [])) fp
  have pt := ht s3 (upd H2 D (.dK [])) s3.heap.objs.size (cellsFrom (s3.heap.objs.size + 1) scope.names (cloFrom X.env.cells scope.names [])) fp
  have pk := hk s3 (upd H2 D (.dK [])) s3.heap.objs.size (cellsFrom (s3.heap.objs.size + 1) scope.names (cloFrom X.env.cells scope.names [])) fp
  have pe := he s3 (upd H2 D (.dK [])) s3.heap.objs.size (cellsFrom (s3.heap.objs.size + 1) scope.names (cloFrom X.env.cells scope.names [])) fp
  have pi1 := hi1 s3 (upd H2 D (.dK [])) s3.heap.objs.size (cellsFrom (s3.heap.objs.size + 1) scope.names (cloFrom X.env.cells scope.names [])) fp
  have pg1 := hg1 s3 (upd H2 D (.dK [])) s3.heap.objs.size (cellsFrom (s3.heap.objs.size + 1) scope.names (cloFrom X.env.cells scope.names [])) fp
  have pt1 := ht1 s3 (upd H2 D (.dK [])) s3.heap.objs.size (cellsFrom (s3.heap.objs.size + 1) scope.names (cloFrom X.env.cells scope.names [])) fp
  show codeAny _ _ (.compStart (.DictComp kx vx [⟨tg, iter, ifs, 0⟩, ⟨tg1, iter1, ifs1, 0⟩] scope pos) 0 (.ref it) (.ref D) (compEnvC scope (cellsFrom (s3.heap.objs.size + 1) scope.names (cloFrom X.env.cells scope.names [])) s3.heap.objs.size X.env)) (compPost (model X.prog X.w) X.A X.xe use Qf (.ref D) s3.heap.objs.size) { s3 with heap := pushCells (s3.heap.push { cls := .type "dict", data := .dict #[] }) scope.names }
  have nfp : ∀ b ∈ fp, (upd H2 D (.dK [])) b = none := fun b hb => (f3 b hb).1.1
  generalize hce : compEnvC scope (cellsFrom (s3.heap.objs.size + 1) scope.names (cloFrom X.env.cells scope.names [])) s3.heap.objs.size X.env = ce at I4 pg pt pk pe pi1 pg1 pt1 ⊢
  have cL : ce.locals = s3.heap.objs.size := by subst hce; rfl
  generalize hH3 : upd H2 D (.dK []) = H3 at I3 I4 pg pt pk pe pi1 pg1 pt1 w0 nfp f3
  generalize hs4 : ({ s3 with heap := pushCells (s3.heap.push { cls := .type "dict", data := .dict #[] }) scope.names } : Shared) = s4 at I4 ⊢
  have st4 : tn 0 s4.heap := T.keep _ _ _ st3 fun b _ o e => by rw [← hs4]; exact pushCells_keeps _ _ _ _ (Heap.get?_push_of_some _ e)
  have stat : ∀ {σ' : L2.St} {H' : Hp} {s' : Shared}, Inv (X.blk s3 H3 scope ce fp) [] σ' H' s' → (∀ b ∈ fp, H' b = none) → ∀ b ∈ fp, FpOk (X.blk s3 H3 scope ce fp) [] H' b := fun {σ' H' s'} I' hn b hb =>
    ⟨hn b hb, (I'.ok.exf b hb).1, I'.ok.exfs b hb, .inl hb, fun x c e => (I'.ok.exf b hb).2 x c e, fun p hp => absurd (show p ∈ ([] : List (Addr × Obj)) ++ [] from hp) (by simp)⟩
  have loop : codeAny (model X.prog X.w) X.A (.compLoop (.DictComp kx vx [⟨tg, iter, ifs, 0⟩, ⟨tg1, iter1, ifs1, 0⟩] scope pos) 0 (.ref it) (.ref D) ce) (compPost (model X.prog X.w) X.A X.xe use Qf (.ref D) s3.heap.objs.size) s4 := by
    refine loopD_out (hs1 ce) (fun n s' => ∃ i H', Inv (X.blk s3 H3 scope ce fp) [] (wipe σ (own.map (·.2))) H' s' ∧ tn i s'.heap ∧ (∀ b ∈ fp, H' b = none) ∧ W i n H') ?_ m0 ⟨0, H3, I4, st4, nfp, w0⟩
    rintro n s5 ⟨i, H5, I5, st5, n5, w5⟩
    rcases turn i n H5 w5 with ⟨stop, qq⟩ | ⟨go, Nx, hNx, step⟩
    · have td := T.done (X.blk s3 H3 scope ce fp) rfl rfl rfl hc i [] s5 _ H5 (fun _ _ => False) I5 (stat I5 n5) st5 stop
      refine thnF td fun r s6 ⟨hr, I6⟩ => ?_
      subst hr
      -- back in the def's context
      have I7 : Inv X pins σ H5 s6 := I3.call' (ch := fp) I6.os I6.base I6.hok I6.bare fun b hb => ⟨(f3 b hb).1.2.2.2.1, (f3 b hb).1.2.1, (f3 b hb).1.2.2.2.2.1, (f3 b hb).1.2.2.2.2.2⟩
      have nC : H5 s3.heap.objs.size = none := by
        have z : H5 ce.locals = none := I6.free
        rw [cL] at z
        exact z
      obtain ⟨m, hn, _⟩ := I6.loc
      have hn : s6.heap.Ns ce.locals m := hn
      rw [cL] at hn
      exact hRR D s3.heap.objs.size s6 m H5 I7 qq hn (I3.fpOk (Nat.le_refl _) nC)
    · have ti := T.item (X.blk s3 H3 scope ce fp) rfl rfl rfl hc i [] s5 _ H5 (fun _ _ => False) I5 (stat I5 n5) st5 go
      refine thnF ti fun r s6 ⟨u, hr, h6⟩ => ?_
      subst hr
      refine thnF h6 fun _ s7 ⟨x, H7, I7, r7, y7, st7, n7⟩ => ?_
      have I7' := I7.pinned (stat I7 n7) (T.obj _ _ st7)
      refine thnF (pg.run _ s7 _ H7 x u _ I7' r7 (step x H7 y7)) fun _ s8 ⟨σ8, H8, I8, hw8, q8⟩ => ?_
      refine thnF (pt.run _ s8 σ8 H8 _ I8 q8) fun b s9 ⟨H9, I9, q9⟩ => ?_
      -- the turn's end, from any slots that know what the block knew at its start
      have fin : ∀ {σ9 : L2.St} {s' : Shared} {H' : Hp}, Inv (X.blk s3 H3 scope ce fp) ([] ++ pinsAt fp s7.heap) σ9 H' s' → (wipe σ (own.map (·.2))).length = σ9.length → (∀ (j : Nat) v, (wipe σ (own.map (·.2)))[j]? = some (some v) → σ9[j]? = some (some v)) → Nx H' →
          ∃ m, m < n ∧ ∃ i H', Inv (X.blk s3 H3 scope ce fp) [] (wipe σ (own.map (·.2))) H' s' ∧ tn i s'.heap ∧ (∀ b ∈ fp, H' b = none) ∧ W i m H' := fun {σ9 s' H'} I' hl hk nx => by
        obtain ⟨m', hm, w'⟩ := hNx H' nx
        have pin' : ∀ b ∈ fp, ∀ o, s7.heap.get? b = some o → s'.heap.get? b = some o ∧ H' b = none := fun b hb o e =>
          let z := I'.pin (b, o) (List.mem_append_right _ (List.mem_append_right _ (mem_pinsAt hb e)))
          ⟨z.1, z.2.1⟩
        refine ⟨m', hm, i + 1, H', (I'.unpinned (pins := [])).weak hl hk, T.keep _ _ _ st7 fun b hb o e => (pin' b hb o e).1, fun b hb => ?_, w'⟩
        obtain ⟨o, e, _⟩ := T.obj _ _ st7 b hb
        exact (pin' b hb o e).2
      have hl8 : (wipe σ (own.map (·.2))).length = σ8.length := by rw [← hw8, wipe_length]
      have hk8 : ∀ (j : Nat) v, (wipe σ (own.map (·.2)))[j]? = some (some v) → σ8[j]? = some (some v) := fun j v e => by
        rw [← hw8] at e
        exact (wipe_some e).1
      have hk9 : ∀ (j : Nat) v, (wipe σ (own.map (·.2)))[j]? = some (some v) → (wipe σ8 vs1)[j]? = some (some v) := fun j v e => by
        rw [← hw8] at e
        obtain ⟨e1, e2⟩ := wipe_some e
        rw [wipe_out fun z => e2 (hv j z)]
        exact e1
      cases b with
      | false =>
        simp only [Bool.false_eq_true, if_false] at q9 ⊢
        exact fin I9 hl8 hk8 q9
      | true =>
        simp only [if_true] at q9 ⊢
        refine thnF (pi1.run _ s9 σ8 H9 _ I9 q9) fun xv s10 hx => thnF hx fun itv s11 h11 => ?_
        obtain ⟨it1, fp1, tn1, J1, H11, e1, I11, T1, st11, f11, W1, ⟨m1, w1⟩, turn1⟩ := h11
        subst e1
        -- the inner loop
        have stat1 : ∀ {H' : Hp}, (∀ b ∈ fp1, H' b = none) → ∀ b ∈ fp1, FpOk (X.blk s3 H3 scope ce fp) ([] ++ pinsAt fp s7.heap) H' b := fun hn b hb => ⟨hn b hb, (f11 b hb).2⟩
        have loop1 : codeAny (model X.prog X.w) X.A (.compLoop (.DictComp kx vx [⟨tg, iter, ifs, 0⟩, ⟨tg1, iter1, ifs1, 0⟩] scope pos) 1 (.ref it1) (.ref D) ce)
            (fun r s' => match r with
              | .ok _ => ∃ m, m < n ∧ ∃ i H', Inv (X.blk s3 H3 scope ce fp) [] (wipe σ (own.map (·.2))) H' s' ∧ tn i s'.heap ∧ (∀ b ∈ fp, H' b = none) ∧ W i m H'
              | .error _ => False) s11 := by
          refine loopD_in (fun k s' => ∃ j H', Inv (X.blk s3 H3 scope ce fp) ([] ++ pinsAt fp s7.heap) (wipe σ8 vs1) H' s' ∧ tn1 j s'.heap ∧ (∀ b ∈ fp1, H' b = none) ∧ W1 j k H') ?_ m1 ⟨0, H11, I11.weak (wipe_length _ _) (fun j v e => (wipe_some e).1), st11, fun b hb => (f11 b hb).1, w1⟩
          rintro k s12 ⟨j, H12, I12, st12, n12, w12⟩
          rcases turn1 j k H12 w12 with ⟨stop1, nx1⟩ | ⟨go1, Nx1, hNx1, step1⟩
          · refine thnF (T1.done (X.blk s3 H3 scope ce fp) rfl rfl rfl hc j _ s12 (wipe σ8 vs1) H12 (fun _ _ => False) I12 (stat1 n12) st12 stop1) fun r s13 ⟨hr, I13⟩ => ?_
            subst hr
            exact fin I13 (hl8.trans (wipe_length σ8 vs1).symm) hk9 nx1
          · refine thnF (T1.item (X.blk s3 H3 scope ce fp) rfl rfl rfl hc j _ s12 (wipe σ8 vs1) H12 (fun _ _ => False) I12 (stat1 n12) st12 go1) fun r s13 ⟨u1, hr, h13⟩ => ?_
            subst hr
            refine thnF h13 fun _ s14 ⟨x1, H14, I14, r14, y14, st14, n14⟩ => ?_
            have I14' := I14.pinned (stat1 n14) (T1.obj _ _ st14)
            refine thnF (pg1.run _ s14 (wipe σ8 vs1) H14 x1 u1 _ I14' r14 (step1 x1 H14 y14)) fun _ s15 ⟨σ15, H15, I15, hw15, q15⟩ => ?_
            refine thnF (pt1.run _ s15 σ15 H15 _ I15 q15) fun b1 s16 ⟨H16, I16, q16⟩ => ?_
            have fin1 : ∀ {s' : Shared} {H' : Hp}, Inv (X.blk s3 H3 scope ce fp) (([] ++ pinsAt fp s7.heap) ++ pinsAt fp1 s14.heap) σ15 H' s' → Nx1 H' → ∃ m, m < k ∧ ∃ j H', Inv (X.blk s3 H3 scope ce fp) ([] ++ pinsAt fp s7.heap) (wipe σ8 vs1) H' s' ∧ tn1 j s'.heap ∧ (∀ b ∈ fp1, H' b = none) ∧ W1 j m H' := fun {s' H'} I' nx => by
              obtain ⟨m', hm, w'⟩ := hNx1 H' nx
              have pin' : ∀ b ∈ fp1, ∀ o, s14.heap.get? b = some o → s'.heap.get? b = some o ∧ H' b = none := fun b hb o e =>
                let z := I'.pin (b, o) (List.mem_append_right _ (List.mem_append_right _ (mem_pinsAt hb e)))
                ⟨z.1, z.2.1⟩
              refine ⟨m', hm, j + 1, H', I'.unpinned.weak (by rw [← hw15, wipe_length]) (fun j v e => by rw [← hw15] at e; exact (wipe_some e).1), T1.keep _ _ _ st14 fun b hb o e => (pin' b hb o e).1, fun b hb => ?_, w'⟩
              obtain ⟨o, e, _⟩ := T1.obj _ _ st14 b hb
              exact (pin' b hb o e).2
            cases b1 with
            | false =>
              simp only [Bool.false_eq_true, if_false] at q16 ⊢
              exact fin1 I16 q16
            | true =>
              simp only [if_true] at q16 ⊢
              refine thnF (pk.run _ s16 σ15 H16 _ I16 q16) fun z s17 ⟨yk, H17, I17, r17, q17⟩ => ?_
              refine thnF (pe.run _ s17 σ15 H17 _ I17 q17) fun z2 s18 ⟨yv, H18, I18, r18, kvs, k9, ek, hD18, hz18, nx⟩ => ?_
              subst ek
              exact d_dictSet (X := X.blk s3 H3 scope ce fp) I18 hD18 hz18 r17 r18 fun s19 I19 => fin1 I19 nx
        exact startD1 loop1 (T1.self X.A 0 _ _ _ st11 loop1)
  exact codeAny_compStart_dict loop (T.self X.A 0 _ _ _ st4 loop)
/-- as a value -/
theorem pe_dc2 {kx vx tg iter tg1 iter1 : Expr} {ifs ifs1 : List Expr} {scope : Scope} {own : List (Str × Nat)} {vs1 : List Nat} {pos : Pos} {wi wi1 : TI} {g g1 : TG} {tt tt1 : TT} {tk tv : TE} (hc : X.calm = true) (hN : X.N.Nodup) (hi : PI X tg iter wi) (ok : BlkOk X.N X.env.scope scope own) (hv : ∀ i ∈ vs1, i ∈ own.map (·.2))
    (hg : ∀ (s : Shared) (H : Hp) (C : Addr) (cl : List (Str × Addr)) (fp : List Addr), PG (X.blk s H scope (compEnvC scope cl C X.env) fp) tg g) (ht : ∀ (s : Shared) (H : Hp) (C : Addr) (cl : List (Str × Addr)) (fp : List Addr), PTs (X.blk s H scope (compEnvC scope cl C X.env) fp) ifs tt)
    (hi1 : ∀ (s : Shared) (H : Hp) (C : Addr) (cl : List (Str × Addr)) (fp : List Addr), PI (X.blk s H scope (compEnvC scope cl C X.env) fp) tg1 iter1 wi1)
    (hg1 : ∀ (s : Shared) (H : Hp) (C : Addr) (cl : List (Str × Addr)) (fp : List Addr), PG (X.blk s H scope (compEnvC scope cl C X.env) fp) tg1 g1) (ht1 : ∀ (s : Shared) (H : Hp) (C : Addr) (cl : List (Str × Addr)) (fp : List Addr), PTs (X.blk s H scope (compEnvC scope cl C X.env) fp) ifs1 tt1)
    (hk : ∀ (s : Shared) (H : Hp) (C : Addr) (cl : List (Str × Addr)) (fp : List Addr), PE (X.blk s H scope (compEnvC scope cl C X.env) fp) kx tk)
    (he : ∀ (s : Shared) (H : Hp) (C : Addr) (cl : List (Str × Addr)) (fp : List Addr), PE (X.blk s H scope (compEnvC scope cl C X.env) fp) vx tv) (hs : ∀ x, foldedSetIterable iter X.env x = pure x := by intro _; rfl) (hs1 : ∀ env x, foldedSetIterable iter1 env x = pure x := by intro _ _; rfl) :
    PE X (.DictComp kx vx [⟨tg, iter, ifs, 0⟩, ⟨tg1, iter1, ifs1, 0⟩] scope pos) (tDc2 wi g tt wi1 g1 tt1 tk tv (own.map (·.2)) vs1) := by
  refine ⟨fun pins s σ H Q I h => ?_⟩
  rw [arm_eval_DictComp]
  refine dc2_core hc hN I hi ok hv hg ht hk he hs hi1 hg1 ht1 hs1 h fun D C s' m H' I' q hn f => ⟨m, hn, fun h'' sb => ?_⟩
  obtain ⟨f0, f1, f2, f3, f4, f5⟩ := f
  exact ⟨.ref D, H', I'.turned (t' := s'.toks) (fun b o hb e => (sb.2 b hb).trans e) f0 f1 f3 f4 f5, rfl, q⟩
end
end Kl

/-! ## D17 -/
namespace Kl
open PySem PySem.Spec PyProof.Rows L2
local macro_rules | `(tactic| walk_at "rd") => `(tactic| repeat (first | refine ⟨_, rfl, ?_⟩ | refine ⟨_, _, rfl, rfl, ?_⟩ | refine ⟨_, _, rfl, ?_⟩ | refine ⟨rfl, ?_⟩ | refine ⟨Or.inl ⟨by decide, by decide⟩, ?_⟩ | refine ⟨Or.inr ⟨by decide, by decide⟩, ?_⟩ | refine ⟨⟨by decide, by decide⟩, ?_⟩ | refine ⟨by decide, ?_⟩ | refine ⟨show (0 : Int) < _ from by decide, ?_⟩))
/-! ### the different letters -/
def addL (acc : List Nat) (c : Nat) : List Nat := if c ∈ acc then acc else acc ++ [c]
def distL (l : List Nat) : List Nat := l.foldl addL []
def allL (things : List Str) : List Nat := things.flatMap fun z => z.cps.toList
theorem addL_mem {acc : List Nat} {c x : Nat} : x ∈ addL acc c ↔ x ∈ acc ∨ x = c := by
  unfold addL
  split
  · constructor
    · exact .inl
    · rintro (h | h)
      · exact h
      · rw [h]; assumption
  · rw [List.mem_append, List.mem_singleton]
theorem addL_nodup {acc : List Nat} {c : Nat} (h : acc.Nodup) : (addL acc c).Nodup := by
  unfold addL
  split
  · exact h
  · rename_i hn
    exact List.nodup_append.mpr ⟨h, List.pairwise_singleton _ _, fun x hx y hy => by
      rw [List.mem_singleton.mp hy]
      exact fun e => hn (by rw [← e]; exact hx)⟩
theorem foldL_mem : ∀ (l acc : List Nat) (x : Nat), x ∈ l.foldl addL acc ↔ x ∈ acc ∨ x ∈ l
  | [], acc, x => by simp
  | c :: l, acc, x => by
    rw [List.foldl_cons, foldL_mem l, addL_mem, List.mem_cons, or_assoc]
theorem foldL_nodup : ∀ (l acc : List Nat), acc.Nodup → (l.foldl addL acc).Nodup
  | [], _, h => h
  | c :: l, acc, h => foldL_nodup l _ (addL_nodup h)
theorem distL_mem {l : List Nat} {x : Nat} : x ∈ distL l ↔ x ∈ l := by
  unfold distL
  rw [foldL_mem]
  simp
theorem distL_nodup (l : List Nat) : (distL l).Nodup := foldL_nodup l [] List.Pairwise.nil
theorem letters_le {S : List Nat} (h : S.Nodup) (hl : ∀ c ∈ S, 97 ≤ c ∧ c ≤ 108) : S.length ≤ 12 := by
  have := h.length_le_of_subset (l₂ := (List.range 12).map (97 + ·)) fun c hc => by
    obtain ⟨h1, h2⟩ := hl c hc
    exact List.mem_map.mpr ⟨c - 97, List.mem_range.mpr (by omega), by omega⟩
  simpa using this
abbrev kC (c : Nat) : Key × V := (sK c, .bl true)
theorem any_kC (S : List Nat) (c : Nat) : ((S.map kC).any fun kv => decide (kv.1 = sK c)) = decide (c ∈ S) := by
  rw [List.any_map, Bool.eq_iff_iff, List.any_eq_true, decide_eq_true_eq]
  constructor
  · rintro ⟨x, hx, e⟩
    have e := sK_inj.mp (of_decide_eq_true (show decide (sK x = sK c) = true from e))
    rw [← e]
    exact hx
  · intro h
    exact ⟨c, h, decide_eq_true (p := sK c = sK c) rfl⟩
theorem put_kC (S : List Nat) (c : Nat) : putK (S.map kC) (sK c) (.bl true) = (addL S c).map kC := by
  unfold putK addL
  rw [any_kC]
  by_cases h : c ∈ S
  · rw [if_pos (decide_eq_true h), if_pos h, List.map_map]
    refine List.map_congr_left fun x _ => ?_
    show (if sK x = sK c then (sK x, V.bl true) else kC x) = kC x
    split <;> rfl
  · rw [if_neg (by rw [decide_eq_false h]; decide), if_neg h, List.map_append]
    rfl
/-- turns of any form -/
theorem walk_any {J : It} {n : Nat} {G : Hp → Prop} {Y : Nat → Hp → V → Hp → Prop} (w : Walk J n G Y) {B : V → Hp → (Hp → Prop) → Prop} {H0 : Hp} {Qd : Hp → Prop} (Pv : Nat → Hp → Prop) (h0 : Pv 0 H0) (hG : ∀ i H, i ≤ n → Pv i H → G H)
    (hs : ∀ i x H H', i < n → Pv i H → Y i H x H' → B x H' (Pv (i + 1))) (hd : ∀ H, Pv n H → Qd H) :
    ∃ W : Nat → Nat → Hp → Prop, (∃ m, W 0 m H0) ∧ ∀ i m H, W i m H → (J.stop i H ∧ Qd H) ∨ (J.go i H ∧ ∃ Nx : Hp → Prop, (∀ H', Nx H' → ∃ m', m' < m ∧ W (i + 1) m' H') ∧ ∀ x H', J.yld i H x H' → B x H' Nx) := by
  refine ⟨fun i m H => m = n - i ∧ i ≤ n ∧ Pv i H, ⟨n, by simp, Nat.zero_le _, h0⟩, ?_⟩
  rintro i m H ⟨rfl, hi, p⟩
  have q := hG i H hi p
  by_cases hlt : i < n
  · exact .inr ⟨w.goes i H hlt q, Pv (i + 1), fun H' p' => ⟨n - (i + 1), by omega, rfl, hlt, p'⟩, fun x H' y => hs i x H H' hlt p (w.yields i H x H' hlt q y)⟩
  · have e : i = n := by omega
    subst e
    exact .inl ⟨w.stops H q, hd H p⟩
theorem allL_take {things : List Str} {i : Nat} {z : Str} (h : things[i]? = some z) : allL (things.take (i + 1)) = allL (things.take i) ++ z.cps.toList := by
  unfold allL
  rw [List.take_add_one, h, List.flatMap_append]
  simp
theorem allL_abc {things : List Str} (sok : ∀ z ∈ things, SetOk z) : ∀ c ∈ allL things, 97 ≤ c ∧ c ≤ 108 := by
  intro c hc
  obtain ⟨z, hz, hc⟩ := List.mem_flatMap.mp hc
  exact (sok z hz).abc c hc
section
variable {P : Program} {w : World} {K : PySem.W.Frag} {mg : Str → Option Value} {base : Heap} {f : Addr} {fd : FuncData}
abbrev n_kinds_in : List Str := ["lane", "thing", "sign"]
theorem sc_kinds_in : FnScope n_kinds_in ["lane"] (defScope s_kinds_in) := ⟨rfl, rfl, rfl, by decide +kernel, rfl, by decide +kernel, by decide +kernel⟩
def spKindsIn : Sp := fun vs H Q _ => ∃ (a : Addr) (b r : Nat) (things : List Str), vs = [.ref a] ∧ LaneH H a b r things ∧ (∀ z ∈ things, SetOk z) ∧
  ∀ p H' xs, Same H H' → H' p = some (.lst xs) → xs.length = (distL (allL things)).length → Q (.ref p) H'
theorem ok_kinds_in (T : Bt mg) (F : FnP K "kinds_in" s_kinds_in f fd) : FnOk P w K mg base CX0 1 f fd ["lane"] spKindsIn := by
  refine F.ok sc_kinds_in (fun vs H Q E h => ?_) (fun cdv A outer s H vs Q E hr h => ?_)
  · obtain ⟨a, b, r, things, rfl, L, sok, q⟩ := h
    rfl
  obtain ⟨a, b, r, things, rfl, L, sok, q⟩ := h
  refine ⟨_, (pss_one (ps_ret (pe_callB (call_sortedD rfl) (by rfl) T.sorted (by decide +kernel) (pa_cons (pe_dc2 (own := [("sign", 2), ("thing", 1)]) (vs1 := [2]) (g := (gName 1)) (tt := tYes) (g1 := (gName 2)) (tt1 := tYes) rfl sc_kinds_in.nd (pi_tup (pe_ix ix_tup (pv 0) pe_int (fun _ _ => rfl))) (blkOk_by (own := [("sign", 2), ("thing", 1)]) (N := n_kinds_in) (sc := defScope s_kinds_in) (by decide +kernel)) (by simp) (fun _ _ _ _ _ => (pg_name (i := 1) sc_kinds_in.nd rfl (Or.inl rfl))) (fun _ _ _ _ _ => pts_nil) (fun _ _ _ _ _ => (pi_str (pv 1))) (fun _ _ _ _ _ => (pg_name (i := 2) sc_kinds_in.nd rfl (Or.inl rfl))) (fun _ _ _ _ _ => pts_nil) (fun _ _ _ _ _ => (pv 2)) (fun _ _ _ _ _ => pe_bl)) pa_nil)))), ?_⟩
  obtain ⟨t, h1, h2⟩ := L.ex
  have hm := L.most
  have hl := L.len
  walk_at "rd"
  refine ⟨a, _, _, _, rfl, rfl, SqT.of h1, rfl, ?_⟩
  walk_at "rd"
  refine ⟨⟨_, SqT.of h2⟩, ?_⟩
  intro D hD
  refine walk_any (walk_tup (xs := things.map V.str)) (fun i H' => Same H H' ∧ H' D = some (.dK ((distL (allL (things.take i))).map kC))) ⟨same_new hD _, upd_same⟩ (fun i H' _ p => SqT.of (p.1 _ _ h2)) ?_ (fun H' p => ?_)
  · rintro i x H2 H3 hi ⟨g2, hd2⟩ ⟨rfl, hx⟩
    obtain ⟨z, hz, rfl⟩ := str_of hx
    have zok := sok z (List.mem_of_getElem? hz)
    walk_at "rd"
    refine walk_any walk_str (fun j H' => Same H H' ∧ H' D = some (.dK (((z.cps.toList.take j).foldl addL (distL (allL (things.take i)))).map kC))) ⟨g2, hd2⟩ (fun _ _ _ _ => trivial) ?_ (fun H' p => ?_)
    · rintro j x2 H4 H5 hj ⟨g4, hd4⟩ ⟨rfl, c, hc, rfl⟩
      walk_at "rd"
      have hcz : z.cps.toList[j]? = some c := code_at hc
      have e : (z.cps.toList.take (j + 1)).foldl addL (distL (allL (things.take i))) = addL ((z.cps.toList.take j).foldl addL (distL (allL (things.take i)))) c := by
        rw [List.take_add_one, hcz, List.foldl_append]
        rfl
      have nd : ((z.cps.toList.take j).foldl addL (distL (allL (things.take i)))).Nodup := foldL_nodup _ _ (distL_nodup _)
      have le : ((z.cps.toList.take j).foldl addL (distL (allL (things.take i)))).length ≤ 12 := letters_le nd fun x hx => by
        rcases (foldL_mem _ _ _).mp hx with h | h
        · exact allL_abc (fun z hz => sok z (List.mem_of_mem_take hz)) x (distL_mem.mp h)
        · exact zok.abc x (List.mem_of_mem_take h)
      refine ⟨_, sK c, rfl, hd4, by rw [List.length_map]; exact sz100 (by omega), ?_⟩
      rw [put_kC, ← e]
      exact ⟨Same.mut g4 hD, upd_same⟩
    · refine ⟨p.1, ?_⟩
      have e := p.2
      rw [show z.cps.toList.take z.cps.size = z.cps.toList from List.take_of_length_le (by simp)] at e
      rw [e, allL_take hz]
      unfold distL
      rw [List.foldl_append]
  · obtain ⟨g2, hd2⟩ := p
    rw [List.length_map] at hd2
    have le : (distL (allL things)).length ≤ 12 := letters_le (distL_nodup _) fun x hx => allL_abc sok x (distL_mem.mp hx)
    rw [List.take_of_length_le (Nat.le_refl _)] at hd2
    walk_at "rd"
    refine ⟨D, _, (distL (allL things)).map fun c => (⟨#[c]⟩ : Str), rfl, .inl hd2, ?_, by rw [List.length_map]; omega, fun ys p hp _ hpn => ?_⟩
    · rw [List.map_map, List.map_map]
      rfl
    · refine q p _ _ (Same.mut g2 (Same.none g2 hpn)) upd_same ?_
      rw [List.length_map, hp.length_eq, List.length_map]
abbrev n_count_kinds : List Str := ["lane"]
theorem sc_count_kinds : FnScope n_count_kinds ["lane"] (defScope s_count_kinds) := ⟨rfl, rfl, rfl, by decide +kernel, rfl, by decide +kernel, by decide +kernel⟩
def spCountKinds : Sp := fun vs H Q _ => ∃ (a : Addr) (b r : Nat) (things : List Str), vs = [.ref a] ∧ LaneH H a b r things ∧ (∀ z ∈ things, SetOk z) ∧ ∀ H', Same H H' → Q (.int ((distL (allL things)).length : Nat)) H'
theorem ok_count_kinds (T : Bt mg) (G_need_lane : Has P w K mg base 3 "need_lane" ["value"] spNeedLane) (G_kinds_in : Has P w K mg base 1 "kinds_in" ["lane"] spKindsIn) (F : FnP K "count_kinds" s_count_kinds f fd) : FnOk P w K mg base CX0 4 f fd ["lane"] spCountKinds := by
  refine F.ok sc_count_kinds (fun vs H Q E h => ?_) (fun cdv A outer s H vs Q E hr h => ?_)
  · obtain ⟨a, b, r, things, rfl, L, sok, q⟩ := h
    rfl
  obtain ⟨a, b, r, things, rfl, L, sok, q⟩ := h
  refine ⟨_, (pss_cons (ps_expr (pe_fn G_need_lane (hr.mono (by decide)) (pa_cons (pv 0) pa_nil)))
  (pss_one (ps_ret (pe_callB call_len_seq (by rfl) T.len (by decide +kernel) (pa_cons (pe_fn G_kinds_in (hr.mono (by decide)) (pa_cons (pv 0) pa_nil)) pa_nil))))), ?_⟩
  walk_at "rd"
  refine ⟨a, b, r, things, rfl, L, sok, fun H1 g1 => ?_⟩
  walk_at "rd"
  refine ⟨a, b, r, things, rfl, L.mono (Same.t g1), sok, fun p H2 xs g2 hp hx => ?_⟩
  walk_at "rd"
  refine ⟨p, _, rfl, .inl (SqL.of hp), ?_⟩
  rw [hx]
  exact q _ (g1.trans g2)
abbrev n_spare_kinds : List Str := ["lane", "lefts", "rights"]
theorem sc_spare_kinds : FnScope n_spare_kinds ["lane"] (defScope s_spare_kinds) := ⟨rfl, rfl, rfl, by decide +kernel, rfl, by decide +kernel, by decide +kernel⟩
def spSpareKinds : Sp := fun vs H Q _ => ∃ (a : Addr) (b r : Nat) (things : List Str), vs = [.ref a] ∧ LaneH H a b r things ∧ (∀ z ∈ things, SetOk z) ∧
  ∀ H', Same H H' → Q (.int (((distL (allL things)).length : Int) - (numberFor (tleft things b r) (tright things b r) : Int))) H'
theorem ok_spare_kinds (T : Bt mg) (G_need_lane : Has P w K mg base 3 "need_lane" ["value"] spNeedLane) (G_thresholds_of : Has P w K mg base 3 "thresholds_of" ["lane"] spThresholdsOf) (G_kinds_in : Has P w K mg base 1 "kinds_in" ["lane"] spKindsIn) (G_number_for : Has P w K mg base 64 "number_for" ["lefts", "rights"] spNumberFor) (F : FnP K "spare_kinds" s_spare_kinds f fd) : FnOk P w K mg base CX0 65 f fd ["lane"] spSpareKinds := by
  refine F.ok sc_spare_kinds (fun vs H Q E h => ?_) (fun cdv A outer s H vs Q E hr h => ?_)
  · obtain ⟨a, b, r, things, rfl, L, sok, q⟩ := h
    rfl
  obtain ⟨a, b, r, things, rfl, L, sok, q⟩ := h
  refine ⟨_, (pss_cons (ps_expr (pe_fn G_need_lane (hr.mono (by decide)) (pa_cons (pv 0) pa_nil)))
  (pss_cons (ps_asg (pe_fn G_thresholds_of (hr.mono (by decide)) (pa_cons (pv 0) pa_nil)) (pg_tup rfl (pgs_cons (pg_name (i := 1) sc_spare_kinds.nd rfl (Or.inl rfl)) (pgs_cons (pg_name (i := 2) sc_spare_kinds.nd rfl (Or.inl rfl)) pgs_nil))))
  (pss_one (ps_ret (pe_op op_sub (pe_callB call_len_seq (by rfl) T.len (by decide +kernel) (pa_cons (pe_fn G_kinds_in (hr.mono (by decide)) (pa_cons (pv 0) pa_nil)) pa_nil)) (pe_fn G_number_for (hr.mono (by decide)) (pa_cons (pv 1) (pa_cons (pv 2) pa_nil)))))))), ?_⟩
  have hm := L.most
  walk_at "rd"
  refine ⟨a, b, r, things, rfl, L, sok, fun H1 g1 => ?_⟩
  walk_at "rd"
  refine ⟨a, b, r, things, rfl, L.mono (Same.t g1), sok, fun p l m H2 g2 hp hl hm2 => ?_⟩
  walk_at "rd"
  refine ⟨p, _, rfl, SqT.of hp, rfl, ?_⟩
  walk_at "rd"
  refine ⟨a, b, r, things, rfl, L.mono (Same.t (g1.trans g2)), sok, fun p3 H3 xs g3 hp3 hx => ?_⟩
  walk_at "rd"
  refine ⟨p3, _, rfl, .inl (SqL.of hp3), ?_⟩
  rw [hx]
  walk_at "rd"
  refine ⟨l, m, _, _, rfl, RowH.mono hl (Same.t g3), RowH.mono hm2 (Same.t g3), by rw [tleft_len]; omega, by rw [tright_len]; omega, fun H4 g4 => ?_⟩
  walk_at "rd"
  exact q _ (g1.trans (g2.trans (g3.trans g4)))
end
end Kl

/-! ## KlSet -/
/-! sets of texts: set(text), set(list of texts), their size, their sorted members -/
namespace Kl
open PySem PySem.Spec PyProof.Rows L2
def keyS (e : Int × Value) : Str := match e.2 with
  | .str k _ => k
  | _ => ⟨#[]⟩
def GoodS (w : World) (e : Int × Value) : Prop := ∃ k tk, e.2 = Value.str k tk ∧ e.1 = hashStr w k
/-- the set at a has the members l -/
structure SetS (w : World) (h : Heap) (a : Addr) (l : List Str) : Prop where
  ex : ∃ o es ep t, h.get? a = some o ∧ o.ExactSet ∧ o.data = .set es ep t ∧ (∀ e ∈ es.toList, GoodS w e) ∧ (es.toList.map keyS).Perm l ∧ es.size < scanBound ∧ t.fits es.size = true ∧ Ris t.place.toList ∧ (w.params.followText "set-order" = true ∨ t.led = true)
  nd : l.Nodup
section
variable {P : Program} {w : World} {A : Around} {E : Value → Shared → Prop} {s : Shared} {a : Addr} {l : List Str} {h h' : Heap}
theorem SetS.at (R : SetS w h a l) (k : ∀ o, h.get? a = some o → h'.get? a = some o) : SetS w h' a l := by
  obtain ⟨⟨o, es, ep, t, ho, r⟩, nd⟩ := R
  exact ⟨⟨o, es, ep, t, k o ho, r⟩, nd⟩
theorem strIs (k : Str) (tk : Tok) : (strKind P w).is k (.str k tk) = true := strKind_is _ _ _ _
theorem goodS_elems {l : List (Int × Value)} (g : ∀ e ∈ l, GoodS w e) : ElemsOf (strKind P w) l := fun e he => by
  obtain ⟨k, tk, h1, h2⟩ := g e he
  exact ⟨⟨k, by rw [h1]; exact strIs k tk, h2⟩, by rw [h1] <;> rfl⟩
theorem goodS_is {e : Int × Value} (g : GoodS w e) (k : Str) : (strKind P w).is k e.2 = true ↔ keyS e = k := by
  obtain ⟨k0, tk, h1, _⟩ := g
  unfold keyS
  rw [h1]
  constructor
  · intro q
    exact (strKind P w).inj (.str k0 tk) k0 k (strIs k0 tk) q
  · intro q
    show (strKind P w).is k (.str k0 tk) = true
    have q : k0 = k := q
    rw [q]
    exact strIs k tk
theorem setS_tail {g : Bool → Sem Unit} (hg : ∀ (b : Bool) (s₁ : Shared) (Q' : Unit → Shared → Prop), Q' () s₁ → wpAny (model P w) A (g b) Q' E s₁)
    {o : Obj} {es : Array (Int × Value)} {ep : Nat} {t : SetTable} (ho : s.heap.get? a = some o) (hex : o.ExactSet) (hd : o.data = .set es ep t)
    {es1 : Array (Int × Value)} {t2 : SetTable} {l' : List Str} (g1 : ∀ e ∈ es1.toList, GoodS w e) (m1 : (es1.toList.map keyS).Perm l') (nd1 : l'.Nodup)
    (hb1 : es1.size < scanBound) (hf2 : t2.fits es1.size = true) (hr : Ris t2.place.toList) (hl : w.params.followText "set-order" = true ∨ t2.led = true) {wasDummy : Bool} {R : Option Bool → Shared → Prop}
    (hR : ∀ h', Heap.SameBut a s.heap h' → SetS w h' a l' → R (some true) { s with heap := h' }) :
    wpAny (model P w) A (do
        storeSet a es1 t2
        if (!wasDummy && t2.tooFull) = true then do
            g (relayAll t2 es1 (SetTable.grown es1.size)).2.2
            storeSet a (relayAll t2 es1 (SetTable.grown es1.size)).1 (relayAll t2 es1 (SetTable.grown es1.size)).2.1
            pure (some true)
          else pure (some true)) R E s := by
  refine wpAny_bind (wpAny_storeSet_of ho hd ?_ (fits_of_scanBound hb1))
  have ho1 := store_at (es' := es1) (t' := t2) ho hd
  have sb1 := Heap.SameBut.update s.heap a (Obj.putSet es1 t2)
  split
  · have pm := relayAll_perm t2 es1 (SetTable.grown es1.size)
    have hf3 := relayAll_fits t2 es1 (SetTable.grown es1.size)
    have hr3 := relayAll_ris t2 es1 (SetTable.grown es1.size)
    have hl3 := relayAll_led t2 es1 (SetTable.grown es1.size)
    generalize relayAll t2 es1 (SetTable.grown es1.size) = Z at pm hf3 hr3 hl3 ⊢
    obtain ⟨es2, t3, gave⟩ := Z
    dsimp only at pm hf3 hr3 hl3 ⊢
    have hb2 : es2.size < scanBound := by
      have hsz : es2.size = es1.size := by rw [← Array.length_toList, pm.length_eq, Array.length_toList]
      rw [hsz]; exact hb1
    refine wpAny_bind (hg _ _ _ ?_)
    refine wpAny_bind (wpAny_storeSet_of ho1 rfl ?_ (fits_of_scanBound hb2))
    refine wpAny_pure (hR _ (sb1.trans (Heap.SameBut.update _ a _)) ⟨⟨_, es2, _, t3, store_at (es' := es2) (t' := t3) ho1 rfl, hex, rfl, fun e he => g1 e (pm.mem_iff.mp he), (pm.map keyS).trans m1, hb2, hf3, hr3, ?_⟩, nd1⟩)
    rw [hl3]
    exact hl
  · exact wpAny_pure (hR _ sb1 ⟨⟨_, es1, _, t2, ho1, hex, rfl, g1, m1, hb1, hf2, hr, hl⟩, nd1⟩)
def addS (l : List Str) (k : Str) : List Str := if k ∈ l then l else l ++ [k]
theorem setS_add {k : Str} {tk : Tok} {Q : Bool → Shared → Prop} (R : SetS w s.heap a l) (room : l.length + 1 < scanBound)
    (hQ : ∀ b h', Heap.SameBut a s.heap h' → SetS w h' a (addS l k) → Q b { s with heap := h' }) : wpAny (model P w) A (setAddHashed a (.str k tk) (hashStr w k)) Q E s := by
  obtain ⟨⟨o, es, ep, t, ho, hex, hd, g, pl, hb, hf, hr, hl⟩, nd⟩ := R
  have hkey : (strKind P w).is k (.str k tk) = true := strIs k tk
  have hsc : (Value.str k tk).scannable = true := rfl
  have hel : ElemsOf (strKind P w) es.toList := goodS_elems g
  have hn : es.size = l.length := by rw [← pl.length_eq, List.length_map, Array.length_toList]
  unfold setAddHashed setAddHashedIn
  refine wpAny_holding (wpAny_bind (wpAny_setState_of ho hd hf ?_))
  dsimp only
  rw [byScan_of hsc hb hel]
  simp only [↓reduceIte]
  unfold setAddByScan
  refine wpAny_bind ?_
  refine wpAny_bind (wpAny_rule ?_)
  refine wpAny_bind (wpAny_setScan_of hkey ho hd hf hel ?_)
  cases hfi : List.findIdx? (fun e => (strKind P w).is k e.2) es.toList with
  | some j =>
    dsimp only
    obtain ⟨hj, pj, _⟩ := List.findIdx?_eq_some_iff_getElem.mp hfi
    have hm : k ∈ l := pl.mem_iff.mp (List.mem_map.mpr ⟨es.toList[j], List.getElem_mem hj, (goodS_is (P := P) (g _ (List.getElem_mem hj)) k).mp pj⟩)
    refine wpAny_pure (wpAny_pure (hQ _ s.heap (Heap.SameBut.refl a s.heap) ?_))
    unfold addS
    rw [if_pos hm]
    exact ⟨⟨o, es, ep, t, ho, hex, hd, g, pl, hb, hf, hr, hl⟩, nd⟩
  | none =>
    dsimp only
    have hnk : k ∉ l := fun z => by
      obtain ⟨e, he, q⟩ := List.mem_map.mp (pl.mem_iff.mpr z)
      have c := List.findIdx?_eq_none_iff.mp hfi e he
      rw [(goodS_is (P := P) (g e he) k).mpr q] at c
      cases c
    have gave : ∀ (b : Bool) {s₁ : Shared} {Q' : Unit → Shared → Prop}, Q' () s₁ → wpAny (model P w) A (match b with | true => rule "set.scan.the-table-gave-way" | false => pure ()) Q' E s₁ :=
      fun b s₁ Q' q => by cases b <;> first | exact wpAny_pure q | exact wpAny_rule q
    have pm := layNew_perm t es (hashStr w k) (.str k tk)
    have hf1 := layNew_fits t es (hashStr w k) (.str k tk)
    have hr1 := layNew_ris t es (hashStr w k) (.str k tk) hr
    have hl1 := layNew_led t es (hashStr w k) (.str k tk)
    generalize layNew t es (hashStr w k) (.str k tk) = Z at pm hf1 hr1 hl1 ⊢
    obtain ⟨es1, t1, wasDummy, gv⟩ := Z
    dsimp only at pm hf1 hr1 hl1 ⊢
    rw [Array.toList_push] at pm
    have pk : (es1.toList.map keyS).Perm (l ++ [k]) := by
      have q := pm.map keyS
      rw [List.map_append] at q
      exact q.trans (List.Perm.append_right _ pl)
    have g1 : ∀ e ∈ es1.toList, GoodS w e := fun e he => by
      rcases List.mem_append.mp (pm.mem_iff.mp he) with z | z
      · exact g e z
      · rw [List.mem_singleton.mp z]; exact ⟨k, tk, rfl, rfl⟩
    have nd1 : (l ++ [k]).Nodup := List.nodup_append.mpr ⟨nd, List.pairwise_singleton _ _, fun x hx y hy => by
      rw [List.mem_singleton.mp hy]
      exact fun e => hnk (by rw [← e]; exact hx)⟩
    have hb1 : es1.size < scanBound := by
      have e := pk.length_eq
      rw [List.length_map, Array.length_toList, List.length_append, List.length_singleton] at e
      omega
    have hled : w.params.followText "set-order" = true ∨ t1.led = true := by rw [hl1]; exact hl
    have fin : ∀ h', Heap.SameBut a s.heap h' → SetS w h' a (l ++ [k]) → Q true { s with heap := h' } := fun h' sb r => hQ _ h' sb (by unfold addS; rw [if_neg hnk]; exact r)
    refine wpAny_bind (gave _ ?_)
    split
    · refine wpAny_bind ?_
      rw [hashByValue_scannable 8 hsc]
      refine wpAny_pure ?_
      refine setS_tail ?_ ho hex hd g1 pk nd1 hb1 ?_ ?_ ?_ ?_
      · intro b s₁ Q' q; cases b <;> first | exact wpAny_pure q | exact wpAny_rule q
      · first | (split <;> first | exact hf1 | exact SetTable.fits_plain_off hf1) | exact hf1
      · first | (split <;> exact hr1) | exact hr1
      · first | (split <;> exact hled) | exact hled
      · intro h' sb r; dsimp only; exact wpAny_pure (fin h' sb r)
    · refine wpAny_bind (wpAny_pure ?_)
      simp only [↓reduceIte]
      refine setS_tail ?_ ho hex hd g1 pk nd1 hb1 hf1 hr1 hled ?_
      · intro b s₁ Q' q; cases b <;> first | exact wpAny_pure q | exact wpAny_rule q
      · intro h' sb r; dsimp only; exact wpAny_pure (fin h' sb r)
theorem setS_new {h : Heap} {a : Addr} (ho : h.get? a = some { cls := .type "set", dict := none, data := .set #[] 0 (.fresh 0 0 (!w.params.followText "set-order")) }) : SetS w h a [] :=
  ⟨⟨_, #[], 0, _, ho, ⟨rfl, rfl, rfl⟩, rfl, (fun e he => by simp at he), List.Perm.refl _, (by decide), (by rfl), List.Pairwise.nil, by
    show _ ∨ (!w.params.followText "set-order") = true
    cases w.params.followText "set-order"
    · exact .inr rfl
    · exact .inl rfl⟩, List.Pairwise.nil⟩
theorem addS_len (l : List Str) (k : Str) : (addS l k).length ≤ l.length + 1 := by
  unfold addS
  split <;> simp
def distS (xs : List Str) : List Str := xs.foldl addS []
theorem distS_take {xs : List Str} {i : Nat} {k : Str} (h : xs[i]? = some k) : distS (xs.take (i + 1)) = addS (distS (xs.take i)) k := by
  unfold distS
  rw [List.take_add_one, h, List.foldl_append]
  rfl
theorem distS_le : ∀ (xs : List Str), (distS xs).length ≤ xs.length := by
  have h : ∀ (xs l : List Str), (xs.foldl addS l).length ≤ l.length + xs.length := by
    intro xs
    induction xs with
    | nil => intro l; exact Nat.le_refl _
    | cons x r ih =>
      intro l
      have h1 := ih (addS l x)
      have h2 := addS_len l x
      rw [List.foldl_cons, List.length_cons]
      omega
  intro xs
  have := h xs []
  rw [List.length_nil, Nat.zero_add] at this
  exact this
theorem update_loop {I : Addr} {fp wr : List Addr} {G : Array GenState → Array GenState → Prop} {n : Nat} {Pv : Nat → Value → Prop} {St : Nat → Shared → Prop} {R : Result → Shared → Prop}
    (W : WalksS P w A.in1 I fp wr G n Pv St) (S : Addr) (hSf : S ∉ fp) (xs : List Str) (hn : n = xs.length) (hb : xs.length + 1 < scanBound) (hval : ∀ i v, Pv i v → ∃ k t, xs[i]? = some k ∧ v = .str k t) :
    ∀ (k i : Nat) (s : Shared), n - i = k → i ≤ n → St i s → SetS w s.heap S (distS (xs.take i)) → (∀ s', Moved (S :: wr) G s s' → SetS w s'.heap S (distS xs) → R (.ok (.ret .none)) s') →
      codeAny (model P w) A (.builtin "set.update.loop" ⟨[.ref S, .ref I], []⟩) R s := by
  have hSw : S ∉ wr := fun h => hSf (W.sub _ h)
  have hsub : ∀ b ∈ wr, b ∈ S :: wr := fun b hb => List.mem_cons_of_mem _ hb
  intro k
  induction k with
  | zero =>
    intro i s hk' hi hst hS hR
    have hin : i = n := by omega
    subst hin
    refine codeAny_builtin F.entry_set_update_loop ?_
    rw [Around.under_plainId F.plain_set_update_loop _]
    show wpAny _ A.in1 (pyNext (.ref I) >>= _) _ _ s
    refine wpAny_bind (W.done s _ _ hst fun s' hm => ?_)
    show wpAny _ A.in1 (ret Value.none) _ _ s'
    rw [List.take_of_length_le (by omega)] at hS
    exact wpAny_pure (hR s' (hm.mono hsub) (hS.at fun o e => hm.heap S o hSw e))
  | succ k ih =>
    intro i s hk' hi hst hS hR
    have hlt : i < n := by omega
    refine codeAny_builtin F.entry_set_update_loop ?_
    rw [Around.under_plainId F.plain_set_update_loop _]
    show wpAny _ A.in1 (pyNext (.ref I) >>= _) _ _ s
    refine wpAny_bind (W.item i s _ _ hlt hst fun v s' hP hst' hm => ?_)
    obtain ⟨z, t, hz, rfl⟩ := hval i v hP
    have hS' : SetS w s'.heap S (distS (xs.take i)) := hS.at fun o e => hm.heap S o hSw e
    show wpAny _ A.in1 (holding [Value.str z t] (setAdd S (.str z t)) >>= _) _ _ s'
    refine wpAny_bind (wpAny_holding ?_)
    unfold setAdd
    refine wpAny_holding ?_
    refine wpAny_bind ((strKind P w).pyHash (k := z) (strIs z t) ?_)
    have hlen := distS_le (xs.take i)
    rw [List.length_take] at hlen
    refine setS_add (s := { s' with toks := s'.toks + 1 }) hS' (by omega) fun b h' hsb hS2 => ?_
    rw [← distS_take hz] at hS2
    refine wpAny_pure ⟨plainId_quiet F.plain_set_update_loop _, ih (i + 1) _ (by omega) hlt (W.frame _ s' _ _ hst' (Nat.le_succ _) fun b hb o e => ?_) hS2 fun s'' hm'' hS'' => ?_⟩
    · rw [hsb.2 b (fun h : b = S => hSf (by rw [← h]; exact hb))]; exact e
    · refine hR s'' (Moved.trans W.gtrans ((hm.mono hsub).then_heap (Nat.le_succ _) fun b o hb e => ?_) hm'') hS''
      rw [hsb.2 b (fun h : b = S => hb (by rw [h]; exact List.mem_cons_self))]; exact e
set_option maxHeartbeats 6400000 in
/-- set(list of texts) -/
theorem call_setL {p : Addr} {items : Array Value} (xs : List Str) {Q : Value → Shared → Prop} (hh : A.handled = none) (hl : s.heap.IsList p items) (hit : StrsAre items.toList xs) (hb : xs.length + 1 < scanBound)
    (h : ∀ (h' : Heap) (tk : Nat), SetS w h' s.heap.objs.size (distS xs) → (∀ b o, s.heap.get? b = some o → h'.get? b = some o) → Q (.ref s.heap.objs.size) { s with heap := h', toks := tk }) :
    wpAny (model P w) A (call (.type "set") [.ref p]) Q E s := by
  have hisz : items.size = xs.length := by
    have q := StrsAre.len_eq hit
    rw [Array.length_toList] at q
    exact q
  obtain ⟨c, tl, hmro⟩ := F.called_set.mro
  have hmade := F.called_set.made
  have hsub := F.called_set.sub
  refine wpAny_call (codeAny_of_tree ?_)
  show wpAny _ _ (callAny (.type "set") _) _ _ _
  refine wpAny_pure ⟨Code.quiet_builtin _ (by decide +kernel), codeAny_builtin F.entry_type_call ?_⟩
  rw [Around.under_plain (weight_type_call_type "set" [.ref p] []) rfl]
  have h1 := F.called_set.notType
  have h2 := F.called_set.canCreate
  have hct := F.typeCall_set_1 (.ref p)
  repeat (any_goals (first | assumption | wp_step))
  refine codeAny_mono (code_set_led1 (.ref p) (E := E) (Q₁ := fun obj s₁ => obj = .ref s.heap.objs.size ∧ s₁ = { s with heap := s.heap.push { cls := .type "set", dict := none, data := .set #[] 0 (.fresh 0 0 (!w.params.followText "set-order")) } }) ⟨rfl, rfl⟩) fun r s₁ hr => ?_
  cases r with
  | error e => exact hr
  | ok fl =>
    cases fl with
    | ret obj =>
      obtain ⟨rfl, rfl⟩ := hr
      have hS : (s.heap.push { cls := .type "set", dict := none, data := .set #[] 0 (.fresh 0 0 (!w.params.followText "set-order")) }).get? s.heap.objs.size = some { cls := .type "set", dict := none, data := .set #[] 0 (.fresh 0 0 (!w.params.followText "set-order")) } := Heap.get?_push_size _ rfl
      have hT : Shared.TypeIs { s with heap := s.heap.push { cls := .type "set", dict := none, data := .set #[] 0 (.fresh 0 0 (!w.params.followText "set-order")) } } (.ref s.heap.objs.size) "set" := ⟨_, hS, rfl⟩
      have hli := F.called_set.init.lookup
      have hbi := F.called_set.init.bind (.ref s.heap.objs.size)
      repeat (any_goals (first | assumption | wp_step))
      refine codeAny_mono (codeAny_call_builtin (R := wants (fun r s₂ => r = .none ∧ ∃ h' tk, s₂ = { s with heap := h', toks := tk } ∧ SetS w h' s.heap.objs.size (distS xs) ∧ (∀ b o, s.heap.get? b = some o → h'.get? b = some o)) E)
        F.called_set.init.plain F.entry_set_init (check_set_init_1 hT ?_)) fun r₂ s₂ hr₂ => ?_
      · obtain ⟨ol, hol, hcl, nl, hdl⟩ := hl
        obtain ⟨ocls, odict, odata, oslots⟩ := ol
        simp only at hcl hdl
        subst hcl; subst hdl
        have hol' : (s.heap.push { cls := .type "set", dict := none, data := .set #[] 0 (.fresh 0 0 (!w.params.followText "set-order")) }).get? p = some { cls := .type "list", dict := odict, data := .seq items nl, slots := oslots } := Heap.get?_push_of_some _ hol
        have hsls := F.sub_list_set
        have hslf := F.sub_list_frozenset
        have hne : (Value.type "list" == Value.type "dict") = false := by decide
        have hl1 : (s.heap.push { cls := .type "set", dict := none, data := .set #[] 0 (.fresh 0 0 (!w.params.followText "set-order")) }).IsList p items := ⟨_, hol', rfl, nl, rfl⟩
        unfold Builtin.«set.__init__» noKeywords Builtin.Frozenset.updateFrom
        generalize hPI : pyIter = PI
        wp_walk
        subst hPI
        refine wpAny_pyIter_list hl1 ?_
        refine wpAny_bind (wpAny_runValue ?_)
        have hlS : p < s.heap.objs.size := Heap.lt_size hol
        have hh3 : A.in1.in1.in1.handled = none := by simp [hh]
        have hz1 : (s.heap.push { cls := .type "set", dict := none, data := .set #[] 0 (.fresh 0 0 (!w.params.followText "set-order")) }).objs.size = s.heap.objs.size + 1 := Heap.size_push ..
        have hneI : p ≠ (s.heap.push { cls := .type "set", dict := none, data := .set #[] 0 (.fresh 0 0 (!w.params.followText "set-order")) }).objs.size := by rw [hz1]; exact Nat.ne_of_lt (Nat.lt_succ_of_lt hlS)
        have hSf : s.heap.objs.size ∉ [(s.heap.push { cls := .type "set", dict := none, data := .set #[] 0 (.fresh 0 0 (!w.params.followText "set-order")) }).objs.size, p] := by
          rw [hz1]
          simp only [List.mem_cons, List.not_mem_nil, or_false, not_or]
          exact ⟨Nat.ne_of_lt (Nat.lt_succ_self _), Nat.ne_of_gt hlS⟩
        have hval : ∀ (i : Nat) (v : Value), items[i]? = some v → ∃ k t, xs[i]? = some k ∧ v = .str k t := fun i v hv => by
          have hi : i < xs.length := by rw [← hisz]; exact (Array.getElem?_eq_some_iff.mp hv).1
          obtain ⟨t, e⟩ := SS.strs_at hit i v (by rw [Array.getElem?_toList]; exact hv)
          refine ⟨xs[i], t, List.getElem?_eq_getElem hi, ?_⟩
          rw [e, List.getD_eq_getElem?_getD, List.getElem?_eq_getElem hi] <;> rfl
        refine update_loop ((Walks.list hh3 _ p hneI items).toS) s.heap.objs.size hSf xs hisz hb hval (items.size - 0) 0 _ (by omega) (Nat.zero_le _) ⟨⟨_, Heap.get?_push_size _ rfl, rfl, rfl⟩, (hl1.push _)⟩ ?hS0 ?hR
        case hS0 => exact setS_new (Heap.get?_push_of_some _ hS)
        case hR =>
          intro s' hm hS'
          obtain ⟨h', g2, d', tk', os'⟩ := s'
          have eg : g2 = s.gens := hm.gens
          have ed : d' = s.drawn := hm.drawn
          have eo : os' = s.os := hm.os
          subst eg; subst ed; subst eo
          show wpAny _ _ _ _ _ _
          refine wpAny_pure ?_
          show wpAny _ _ (ret Value.none) _ _ _
          refine wpAny_pure ⟨rfl, h', tk', rfl, hS', fun b o e => ?_⟩
          have hb0 : b < s.heap.objs.size := Heap.lt_size e
          refine hm.heap b o ?_ (Heap.get?_push_of_some _ (Heap.get?_push_of_some _ e))
          rw [hz1]
          simp only [List.mem_cons, List.not_mem_nil, or_false, not_or]
          exact ⟨Nat.ne_of_lt hb0, Nat.ne_of_lt (Nat.lt_succ_of_lt hb0)⟩
      · cases r₂ with
        | error e => exact hr₂
        | ok fl₂ =>
          cases fl₂ with
          | ret r =>
            obtain ⟨rfl, h', tk, rfl, hS', hk'⟩ := hr₂
            repeat (any_goals (first | assumption | wp_step))
            exact h _ _ hS' hk'
          | _ => exact hr₂.elim
    | _ => exact hr.elim
end
end Kl

/-! ## KlSetT -/
namespace Kl
open PySem PySem.Spec PyProof.Rows L2
section
variable {P : Program} {w : World} {A : Around} {E : Value → Shared → Prop} {s : Shared}
set_option maxHeartbeats 6400000 in
/-- set(text) -/
theorem call_setT (x : Str) (u : Tok) (xs : List Str) {Q : Value → Shared → Prop} (hh : A.handled = none) (hxs : xs = x.cps.toList.map fun c => (⟨#[c]⟩ : Str)) (hb : xs.length + 1 < scanBound)
    (h : ∀ (h' : Heap) (tk : Nat), SetS w h' s.heap.objs.size (distS xs) → (∀ b o, s.heap.get? b = some o → h'.get? b = some o) → Q (.ref s.heap.objs.size) { s with heap := h', toks := tk }) :
    wpAny (model P w) A (call (.type "set") [.str x u]) Q E s := by
  have hisz : x.cps.size = xs.length := by rw [hxs, List.length_map, Array.length_toList]
  obtain ⟨c, tl, hmro⟩ := F.called_set.mro
  have hmade := F.called_set.made
  have hsub := F.called_set.sub
  refine wpAny_call (codeAny_of_tree ?_)
  show wpAny _ _ (callAny (.type "set") _) _ _ _
  refine wpAny_pure ⟨Code.quiet_builtin _ (by decide +kernel), codeAny_builtin F.entry_type_call ?_⟩
  rw [Around.under_plain (weight_type_call_type "set" [.str x u] []) rfl]
  have h1 := F.called_set.notType
  have h2 := F.called_set.canCreate
  have hct := F.typeCall_set_1 (.str x u)
  repeat (any_goals (first | assumption | wp_step))
  refine codeAny_mono (code_set_led1 (.str x u) (E := E) (Q₁ := fun obj s₁ => obj = .ref s.heap.objs.size ∧ s₁ = { s with heap := s.heap.push { cls := .type "set", dict := none, data := .set #[] 0 (.fresh 0 0 (!w.params.followText "set-order")) } }) ⟨rfl, rfl⟩) fun r s₁ hr => ?_
  cases r with
  | error e => exact hr
  | ok fl =>
    cases fl with
    | ret obj =>
      obtain ⟨rfl, rfl⟩ := hr
      have hS : (s.heap.push { cls := .type "set", dict := none, data := .set #[] 0 (.fresh 0 0 (!w.params.followText "set-order")) }).get? s.heap.objs.size = some { cls := .type "set", dict := none, data := .set #[] 0 (.fresh 0 0 (!w.params.followText "set-order")) } := Heap.get?_push_size _ rfl
      have hT : Shared.TypeIs { s with heap := s.heap.push { cls := .type "set", dict := none, data := .set #[] 0 (.fresh 0 0 (!w.params.followText "set-order")) } } (.ref s.heap.objs.size) "set" := ⟨_, hS, rfl⟩
      have hli := F.called_set.init.lookup
      have hbi := F.called_set.init.bind (.ref s.heap.objs.size)
      repeat (any_goals (first | assumption | wp_step))
      refine codeAny_mono (codeAny_call_builtin (R := wants (fun r s₂ => r = .none ∧ ∃ h' tk, s₂ = { s with heap := h', toks := tk } ∧ SetS w h' s.heap.objs.size (distS xs) ∧ (∀ b o, s.heap.get? b = some o → h'.get? b = some o)) E)
        F.called_set.init.plain F.entry_set_init (check_set_init_1 hT ?_)) fun r₂ s₂ hr₂ => ?_
      · have hsls := F.sub_str_set
        have hslf := F.sub_str_frozenset
        have hne : (Value.type "str" == Value.type "dict") = false := by decide
        unfold Builtin.«set.__init__» noKeywords Builtin.Frozenset.updateFrom
        generalize hPI : pyIter = PI
        wp_walk
        subst hPI
        refine wpAny_pyIter_str fun o St hW hst => ?_
        refine wpAny_bind (wpAny_runValue ?_)
        have hh3 : A.in1.in1.in1.handled = none := by simp [hh]
        have hz1 : (s.heap.push { cls := .type "set", dict := none, data := .set #[] 0 (.fresh 0 0 (!w.params.followText "set-order")) }).objs.size = s.heap.objs.size + 1 := Heap.size_push ..
        have hSf : s.heap.objs.size ∉ [(s.heap.push { cls := .type "set", dict := none, data := .set #[] 0 (.fresh 0 0 (!w.params.followText "set-order")) }).objs.size] := by
          rw [hz1]
          simp only [List.mem_cons, List.not_mem_nil, or_false]
          exact Nat.ne_of_lt (Nat.lt_succ_self _)
        have hval : ∀ (i : Nat) (v : Value), SignAt x i v → ∃ k t, xs[i]? = some k ∧ v = .str k t := fun i v ⟨c, t, hc, hv⟩ =>
          ⟨⟨#[c]⟩, t, by rw [hxs, List.getElem?_map, Array.getElem?_toList, hc]; rfl, hv⟩
        refine update_loop ((hW _ hh3).toS) s.heap.objs.size hSf xs hisz hb hval (x.cps.size - 0) 0 _ (by omega) (Nat.zero_le _) hst ?hS0 ?hR
        case hS0 => exact setS_new (Heap.get?_push_of_some _ hS)
        case hR =>
          intro s' hm hS'
          obtain ⟨h', g2, d', tk', os'⟩ := s'
          have eg : g2 = s.gens := hm.gens
          have ed : d' = s.drawn := hm.drawn
          have eo : os' = s.os := hm.os
          subst eg; subst ed; subst eo
          show wpAny _ _ _ _ _ _
          refine wpAny_pure ?_
          show wpAny _ _ (ret Value.none) _ _ _
          refine wpAny_pure ⟨rfl, h', tk', rfl, hS', fun b o e => ?_⟩
          have hb0 : b < s.heap.objs.size := Heap.lt_size e
          refine hm.heap b o ?_ (Heap.get?_push_of_some _ (Heap.get?_push_of_some _ e))
          rw [hz1]
          simp only [List.mem_cons, List.not_mem_nil, or_false, not_or]
          exact ⟨Nat.ne_of_lt hb0, Nat.ne_of_lt (Nat.lt_succ_of_lt hb0)⟩
      · cases r₂ with
        | error e => exact hr₂
        | ok fl₂ =>
          cases fl₂ with
          | ret r =>
            obtain ⟨rfl, h', tk, rfl, hS', hk'⟩ := hr₂
            repeat (any_goals (first | assumption | wp_step))
            exact h _ _ hS' hk'
          | _ => exact hr₂.elim
    | _ => exact hr.elim
end
end Kl

/-! ## KlSetR -/
namespace Kl
open PySem PySem.Spec PyProof.Rows L2
theorem strs_keys : ∀ (l : List Value), (∀ v ∈ l, ∃ k tk, v = Value.str k tk) → StrsAre l (l.map fun v => keyS (0, v))
  | [], _ => .nil
  | v :: l, h => by
    obtain ⟨k, tk, rfl⟩ := h v List.mem_cons_self
    exact .cons k tk (strs_keys l fun u hu => h u (List.mem_cons_of_mem _ hu))
section
variable {P : Program} {w : World} {A : Around} {E : Value → Shared → Prop} {s : Shared} {a : Addr} {l : List Str}
theorem sorted_setS {Q : Value → Shared → Prop} (R : SetS w s.heap a l) (hh : A.handled = none) (h64 : l.length < 64)
    (hQ : ∀ s' p (out : Array Value) (c : Nat) (ys : List Str), (∀ b o, s.heap.get? b = some o → s'.heap.get? b = some o) → s'.gens = s.gens → s'.os = s.os → s.heap.objs.size ≤ p →
      s'.heap.get? p = some (seqObj "list" out c) → StrsAre out.toList ys → ys.Perm l → sortedS ys = true → Q (.ref p) s') :
    wpAny (model P w) A (call (.builtin "sorted") [.ref a]) Q E s := by
  obtain ⟨⟨o, es, ep, t, ho, hex, hd, g, pl, hb, hf, hr, hl⟩, nd⟩ := R
  have hn : es.size = l.length := by rw [← pl.length_eq, List.length_map, Array.length_toList]
  refine Calls.call_function_entry PyProof.Rows.kind_sorted PyProof.Rows.plain_sorted PyProof.Rows.entry_sorted (PyProof.Rows.args_sorted1 _) ?_
  unfold Builtin.«sorted»
  refine wpAny_bind (m := checkCount "sorted" 1 1 _) (wpAny_pure ?_)
  refine wpAny_bind (collect_set (A := A.in1) hh ⟨o, ho, hex.1, hd⟩ hf hb hr hl fun s1 vs k1 hz g1 o1 pm => ?_)
  have hvl : vs.length = l.length := by rw [pm.length_eq, List.length_map, Array.length_toList]; exact hn
  have hS : StrsAre vs (vs.map fun v => keyS (0, v)) := strs_keys vs fun v hv => by
    obtain ⟨e, he, q⟩ := List.mem_map.mp (pm.mem_iff.mp hv)
    obtain ⟨k, tk, h1, _⟩ := g e he
    exact ⟨k, tk, by rw [← q]; exact h1⟩
  have pk : (vs.map fun v => keyS (0, v)).Perm l := by
    have q := pm.map fun v => keyS (0, v)
    rw [List.map_map] at q
    exact q.trans pl
  refine wpAny_bind (wpAny_newList ?_ (by rw [hvl, sizeLine_eq]; omega))
  have hoL : (s1.heap.push (seqObj "list" vs.toArray 0)).get? s1.heap.objs.size = some (seqObj "list" vs.toArray 0) := Heap.get?_push_size _ rfl
  refine wpAny_bind (wpAny_holding (wpAny_call_entry PyProof.Rows.slot_list_sort ⟨_, hoL, rfl⟩ PyProof.Rows.entry_list_sort
    (list_sort_treeK strKind_oneLt (s := { s1 with heap := s1.heap.push (seqObj "list" vs.toArray 0) }) hoL hS.keysOf (fun v₁ v₂ rest e => keyKind_strs (by rw [← e]; exact hS)) (by rw [hvl]; exact h64) fun st' hp hs => ⟨_, rfl, ?_⟩)
    (PyProof.Rows.args_list_sort _)))
  obtain ⟨ys, y1, y2, y3⟩ := sorted_out_str hS hp hs
  obtain ⟨c, hc⟩ := PyProof.Rows.sortedHeap_at (vs := vs) (out := (arrOf st').map (·.2)) hoL
  refine wpAny_pure ⟨_, rfl, hQ _ s1.heap.objs.size _ c ys (fun b u e => ?_) g1 o1 hz hc y1 (y2.trans pk) y3⟩
  have q := k1 b u e
  have hlt := Heap.lt_size q
  show (sortedHeap (s1.heap.push (seqObj "list" vs.toArray 0)) s1.heap.objs.size vs ((arrOf st').map (·.2))).get? b = some u
  rw [PyProof.Rows.sortedHeap_old (Nat.ne_of_lt hlt) (by rw [size_push']; exact Nat.lt_succ_of_lt hlt)]
  exact Heap.get?_push_of_some _ q
end
def signs (z : Str) : List Str := z.cps.toList.map fun c => (⟨#[c]⟩ : Str)
/-- len(set(text)) -/
def tLenSetS (te : TE) : TE := fun σ H Q => te σ H fun x H1 => ∃ z : Str, x = .str z ∧ z.length + 1 < scanBound ∧ Q (.int ((distS (signs z)).length : Nat)) H1
/-- sorted(set(xs)), fewer than 64 texts -/
def tSortedSetS (K : PySem.W.Frag) (te : TE) : TE := fun σ H Q => te σ H fun x H1 => ∃ (p : Addr) (xs : List Str), x = .ref p ∧ SqL K H1 p (xs.map V.str) ∧ xs.length < 64 ∧
  ∀ ys l, ys.Perm (distS xs) → sortedS ys = true → H1 l = none → Q (.ref l) (upd H1 l (.lst (ys.map V.str)))
section
variable {X : Cx} {e : Expr} {te : TE} {p p2 q pos : Pos}
theorem pe_lenSetS (hg : Gl X "len") (hm : X.mg "len" = none) (hg2 : Gl X "set") (hm2 : X.mg "set" = none) (he : PE X e te) (hc : X.calm = true := by rfl)
    (na : starEach [e] X.env = (false, eval e X.env) :: starEach [] X.env := by rfl) : PE X (.Call (.Name "len" p) [.Call (.Name "set" p2) [e] [] q] [] pos) (tLenSetS te) := by
  refine ⟨fun pins s σ H Q I h => ?_⟩
  refine Call_ (ld_blt I hg hm boot_len ?_)
  refine PyProof.Rows.callWith_builtin1 (PyProof.Rows.args_cons ?_ rfl) rfl rfl
  refine Call_ (ld_blt I hg2 hm2 boot_set ?_)
  refine PyProof.Rows.callWith_type1 (PyProof.Rows.args_cons (thn (he.run pins s σ H _ I h) fun v s1 ⟨x, H1, I1, r1, q1⟩ => PyProof.Rows.args_nil ?_) na) na rfl
  obtain ⟨z, rfl, hz, q1⟩ := q1
  obtain ⟨u, rfl⟩ := r1
  refine call_setT z u (signs z) (I1.ok.hd hc) rfl (by unfold signs; rw [List.length_map]; exact hz) fun h' tk hS hk => PyProof.Rows.args_nil ?_
  have hle := distS_le (signs z)
  obtain ⟨⟨o, es, ep, t, ho, hex, hd, _, pl, _, hf, _⟩, _⟩ := hS
  have hn : es.size = (distS (signs z)).length := by rw [← pl.length_eq, List.length_map, Array.length_toList]
  have I2 : Inv X pins σ H1 { s1 with heap := h', toks := tk } := I1.kept hk
  have hb : (es.size : Int) < 2 ^ 63 := by
    have h1 : (signs z).length = z.length := by unfold signs; rw [List.length_map]; rfl
    have h2 : scanBound < 2 ^ 62 := by decide
    omega
  refine call_len_set ho hex hd hf hb ⟨.int ((distS (signs z)).length : Nat), H1, I2.tok _, ⟨_, by rw [hn]⟩, q1⟩
theorem pe_sortedSetS (hg : Gl X "sorted") (hm : X.mg "sorted" = none) (hg2 : Gl X "set") (hm2 : X.mg "set" = none) (he : PE X e te) (hc : X.calm = true := by rfl)
    (na : starEach [e] X.env = (false, eval e X.env) :: starEach [] X.env := by rfl) : PE X (.Call (.Name "sorted" p) [.Call (.Name "set" p2) [e] [] q] [] pos) (tSortedSetS X.K te) := by
  refine ⟨fun pins s σ H Q I h => ?_⟩
  refine Call_ (ld_blt I hg hm boot_sorted ?_)
  refine PyProof.Rows.callWith_builtin1 (PyProof.Rows.args_cons ?_ rfl) rfl rfl
  refine Call_ (ld_blt I hg2 hm2 boot_set ?_)
  refine PyProof.Rows.callWith_type1 (PyProof.Rows.args_cons (thn (he.run pins s σ H _ I h) fun v s1 ⟨x, H1, I1, r1, q1⟩ => PyProof.Rows.args_nil ?_) na) na rfl
  obtain ⟨pa, xs, rfl, hq, h64, q1⟩ := q1
  cases r1
  obtain ⟨its, r, pl, hz⟩ := I1.list hq
  have hsc : (64 : Nat) < scanBound := by decide
  refine call_setL xs (I1.ok.hd hc) pl.isList (by simpa using strsAre_of r) (by omega) fun h' tk hS hk => PyProof.Rows.args_nil ?_
  have I2 : Inv X pins σ H1 { s1 with heap := h', toks := tk } := I1.kept hk
  have hle := distS_le xs
  have hS2 : SetS X.w ({ s1 with heap := h', toks := tk } : Shared).heap s1.heap.objs.size (distS xs) := hS
  generalize ({ s1 with heap := h', toks := tk } : Shared) = s2 at I2 hS2 ⊢
  refine sorted_setS hS2 (I2.ok.hd hc) (by omega) fun s' l out c ys k g o hl hgt hi hs hsort => ?_
  have hlen : (ys.map V.str).length ≤ sizeLine := by rw [List.length_map, hs.length_eq, sizeLine_eq]; omega
  have hn : H1 l = none := I2.hok.fresh hl
  have J : Inv X pins σ (upd H1 l (.lst (ys.map V.str))) { s2 with heap := s'.heap, gens := s'.gens, drawn := s'.drawn, toks := s'.toks } :=
    I2.call (ch := []) (Un.laid k hl hn) (I2.hok.laid k hl ⟨hlen, out.toList, c, vals_of_strs hi, hgt⟩) (by rw [g]; exact I2.bare) (fun _ z => nomatch z)
  have e : s' = { s2 with heap := s'.heap, gens := s'.gens, drawn := s'.drawn, toks := s'.toks } := by
    cases s'
    cases s2
    cases o
    rfl
  rw [e]
  exact ⟨.ref l, _, J, rfl, q1 ys l hs hsort hn⟩
end
end Kl

/-! ## D18 -/
namespace Kl
open PySem PySem.Spec PyProof.Rows L2
local macro_rules | `(tactic| walk_at "rd") => `(tactic| repeat (first | refine ⟨_, rfl, ?_⟩ | refine ⟨_, _, rfl, rfl, ?_⟩ | refine ⟨_, _, rfl, ?_⟩ | refine ⟨rfl, ?_⟩ | refine ⟨Or.inl ⟨by decide, by decide⟩, ?_⟩ | refine ⟨Or.inr ⟨by decide, by decide⟩, ?_⟩ | refine ⟨⟨by decide, by decide⟩, ?_⟩ | refine ⟨by decide, ?_⟩ | refine ⟨show (0 : Int) < _ from by decide, ?_⟩))
/-- the script stands in the written part -/
def KSeq (K : PySem.W.Frag) (sc : Addr) (xs : List V) : Prop := ∃ (o : Obj) (its : Array Value) (n : Nat), K.lookup sc = some o ∧ o.cls = .type "list" ∧ o.dict = none ∧ o.data = .seq its n ∧ its.size ≤ sizeLine ∧ Vals xs its.toList
/-- a new thing is not the script -/
def Far (K : PySem.W.Frag) (sc : Addr) (ns : List Int) (p : Addr) : Prop := sc ≠ p ∨ KSeq K sc (ns.map V.int)
theorem sqL_far {K : PySem.W.Frag} {H : Hp} {sc p : Addr} {ns : List Int} (hf : Far K sc ns p) (h : SqL K H sc (ns.map V.int)) (o : HO) : SqL K (upd H p o) sc (ns.map V.int) := by
  rcases hf with q | q
  · rcases h with (h | ⟨u, h⟩) | h
    · exact .inl (.inl (by rw [upd_ne q]; exact h))
    · exact .inl (.inr ⟨u, by rw [upd_ne q]; exact h⟩)
    · exact .inr h
  · exact .inr q
theorem sq_far {K : PySem.W.Frag} {H : Hp} {sc p : Addr} {ns : List Int} (h : SqL K H sc (ns.map V.int)) (hp : H p = none) : Far K sc ns p := by
  rcases h with (h | ⟨o, h⟩) | h
  · exact .inl (ne_of_none h hp)
  · exact .inl (ne_of_none h hp)
  · exact .inr h
/-- the script's cells and how far they are drawn -/
def DrawH (K : PySem.W.Frag) (H : Hp) (row sc : Addr) (ns : List Int) : Prop := ∃ (p : Nat) (a b : Int), Far K sc ns row ∧ SqL K H sc (ns.map V.int) ∧ H row = some (.lst [.ref sc, .int (p : Nat), .int a, .int b])
/-- all but one stay -/
def SameR (p : Addr) (H H' : Hp) : Prop := ∀ b u, b ≠ p → H b = some u → H' b = some u
theorem SameR.refl (p : Addr) (H : Hp) : SameR p H H := fun _ _ _ h => h
theorem SameR.trans {p : Addr} {H H1 H2 : Hp} (a : SameR p H H1) (b : SameR p H1 H2) : SameR p H H2 := fun c u h1 h => b c u h1 (a c u h1 h)
theorem SameR.up {p : Addr} {H H' : Hp} (a : SameR p H H') (o : HO) : SameR p H (upd H' p o) := fun c u h1 h => by rw [upd_ne h1]; exact a c u h1 h
theorem SameR.of {p : Addr} {H H' : Hp} (g : Same H H') : SameR p H H' := fun b u _ h => g b u h
theorem sqL_same {K : PySem.W.Frag} {H H' : Hp} {a : Addr} {xs : List V} (h : SqL K H a xs) (g : ∀ u, H a = some u → H' a = some u) : SqL K H' a xs := by
  rcases h with (h | ⟨o, h⟩) | h
  · exact .inl (.inl (g _ h))
  · exact .inl (.inr ⟨o, g _ h⟩)
  · exact .inr h
theorem DrawH.mono {K : PySem.W.Frag} {H H' : Hp} {row sc : Addr} {ns : List Int} (h : DrawH K H row sc ns) (g : Same H H') : DrawH K H' row sc ns := by
  obtain ⟨p, a, b, h1, h2, h3⟩ := h
  exact ⟨p, a, b, h1, sqL_same h2 (g sc), g _ _ h3⟩
theorem DrawH.far {K : PySem.W.Frag} {H : Hp} {row sc p : Addr} {ns : List Int} (h : DrawH K H row sc ns) (hp : H p = none) : Far K sc ns p := by
  obtain ⟨_, _, _, _, h2, _⟩ := h
  exact sq_far h2 hp
theorem DrawH.other {K : PySem.W.Frag} {H : Hp} {row sc p : Addr} {ns : List Int} (h : DrawH K H row sc ns) (hf : Far K sc ns p) (hne : p ≠ row) (o : HO) : DrawH K (upd H p o) row sc ns := by
  obtain ⟨i, a, b, h1, h2, h3⟩ := h
  exact ⟨i, a, b, h1, sqL_far hf h2 o, by rw [upd_ne (Ne.symm hne)]; exact h3⟩
section
variable {P : Program} {w : World} {K : PySem.W.Frag} {mg : Str → Option Value} {base : Heap} {f : Addr} {fd : FuncData}
abbrev n_law_taken : List Str := ["_law_row", "_law_many", "_law_found", "_law_cell"]
theorem sc_law_taken : FnScope n_law_taken ["_law_row", "_law_many"] (defScope s_law_taken) := ⟨rfl, rfl, rfl, by decide +kernel, rfl, by decide +kernel, by decide +kernel⟩
def spTaken (K : PySem.W.Frag) : Sp := fun vs H Q _ => ∃ (row : Addr) (m : Nat), vs = [.ref row, .int (m : Nat)] ∧ 0 < m ∧ m < 1000 ∧ ∃ (sc : Addr) (ns : List Int), DrawH K H row sc ns ∧ ∀ (r : Nat) H', r < m → SameR row H H' → DrawH K H' row sc ns → Q (.int (r : Nat)) H'
theorem ok_law_taken (T : Bt mg) (F : FnP K "_law_taken" s_law_taken f fd) : FnOk P w K mg base CX0 1 f fd ["_law_row", "_law_many"] (spTaken K) := by
  refine F.ok sc_law_taken (fun vs H Q E h => ?_) (fun cdv A outer s H vs Q E hr h => ?_)
  · obtain ⟨row, m, rfl, h0, hm, sc, ns, ⟨p, a, b, hne, hsc, hrow⟩, q⟩ := h
    rfl
  obtain ⟨row, m, rfl, h0, hm, sc, ns, ⟨p, a, b, hne, hsc, hrow⟩, q⟩ := h
  refine ⟨_, (pss_cons (ps_if (pt_cmpR op_gt (pe_ix ix_list (pv 0) pe_int (fun _ _ => rfl)) pe_int (nomark _)) (pss_cons (ps_set (i := 2) sc_law_taken.nd rfl (Or.inl rfl) (pe_op op_mod (pe_callTy call_int1 (by rfl) T.int (by decide +kernel) (pa_cons (pe_ix ix_list (pv 0) pe_int (fun _ _ => rfl)) pa_nil)) (pv 1)))
  (pss_cons (ps_asg (pe_op op_fdiv (pe_ix ix_list (pv 0) pe_int (fun _ _ => rfl)) (pv 1)) (pg_sub (pv 0) pe_int set_list))
  (pss_one (ps_ret (pv 2))))) pss_nil)
  (pss_cons (ps_asg (pe_op op_add (pe_ix ix_list (pv 0) pe_int (fun _ _ => rfl)) pe_int) (pg_sub (pv 0) pe_int set_list))
  (pss_cons (ps_if (pt_cmpR op_gt (pe_ix ix_list (pv 0) pe_int (fun _ _ => rfl)) (pe_callB call_len_seq (by rfl) T.len (by decide +kernel) (pa_cons (pe_ix ix_list (pv 0) pe_int (fun _ _ => rfl)) pa_nil)) (nomark _)) (pss_cons (ps_asg (pe_op op_mod (pe_callTy call_int1 (by rfl) T.int (by decide +kernel) (pa_cons (pe_op op_add (pe_op op_mul (pe_ix ix_list (pv 0) pe_int (fun _ _ => rfl)) pe_int) pe_int) pa_nil)) pe_int) (pg_sub (pv 0) pe_int set_list))
  (pss_one (ps_ret (pe_op op_mod (pe_callTy call_int1 (by rfl) T.int (by decide +kernel) (pa_cons (pe_op op_fdiv (pe_ix ix_list (pv 0) pe_int (fun _ _ => rfl)) pe_int) pa_nil)) (pv 1))))) pss_nil)
  (pss_cons (ps_set (i := 3) sc_law_taken.nd rfl (Or.inl rfl) (pe_ix ix_list (pe_ix ix_list (pv 0) pe_int (fun _ _ => rfl)) (pe_op op_sub (pe_ix ix_list (pv 0) pe_int (fun _ _ => rfl)) pe_int) (fun _ _ => rfl)))
  (pss_cons (ps_asg (pe_op op_mod (pe_callTy call_int1 (by rfl) T.int (by decide +kernel) (pa_cons (pe_op op_add (pe_op op_add (pe_op op_mul (pe_ix ix_list (pv 0) pe_int (fun _ _ => rfl)) pe_int) (pv 3)) pe_int) pa_nil)) pe_int) (pg_sub (pv 0) pe_int set_list))
  (pss_cons (ps_if (pt_cmpR op_ge (pv 3) (pe_op op_pow pe_int pe_int) (nomark _)) (pss_one (ps_asg (pe_op op_fdiv (pv 3) (pv 1)) (pg_sub (pv 0) pe_int set_list))) pss_nil)
  (pss_one (ps_ret (pe_op op_mod (pe_callTy call_int1 (by rfl) T.int (by decide +kernel) (pa_cons (pv 3) pa_nil)) (pv 1)))))))))), ?_⟩
  have rng : ∀ i : Int, ∃ r : Nat, r < m ∧ i % (m : Int) = (r : Nat) := fun i => ⟨(i % (m : Int)).toNat, by have h1 := Int.emod_nonneg i (show (m : Int) ≠ 0 by omega); have h2 := Int.emod_lt_of_pos i (show (0 : Int) < m by omega); omega, by have h1 := Int.emod_nonneg i (show (m : Int) ≠ 0 by omega); omega⟩
  walk_at "rd"
  refine ⟨row, _, _, _, rfl, rfl, SqL.of hrow, rfl, ?_⟩
  walk_at "rd"
  by_cases hb : 0 < b
  · (refine iteT ?_ ?_; (· exact decide_eq_true hb))
    walk_at "rd"
    refine ⟨row, _, _, _, rfl, rfl, SqL.of hrow, rfl, ?_⟩
    walk_at "rd"
    refine .inl ⟨_, rfl, ?_⟩
    walk_at "rd"
    refine ⟨show (0 : Int) < (m : Nat) by omega, ?_⟩
    walk_at "rd"
    refine ⟨row, _, _, _, rfl, rfl, SqL.of hrow, rfl, ?_⟩
    walk_at "rd"
    refine ⟨⟨by omega, by omega⟩, ?_⟩
    walk_at "rd"
    refine ⟨row, _, _, 3, rfl, rfl, hrow, rfl, ?_⟩
    walk_at "rd"
    obtain ⟨r, hr9, er⟩ := rng b
    show Q (V.int (b % (m : Int))) _
    rw [er]
    exact q r _ hr9 (SameR.up (SameR.refl _ _) _) ⟨p, a, _, hne, sqL_far hne hsc _, upd_same⟩
  · (refine iteF ?_ ?_; (· exact decide_eq_false hb))
    walk_at "rd"
    refine ⟨row, _, _, _, rfl, rfl, SqL.of hrow, rfl, ?_⟩
    walk_at "rd"
    refine ⟨row, _, _, 1, rfl, rfl, hrow, rfl, ?_⟩
    have g1 := SameR.up (SameR.refl row H) (HO.lst [V.ref sc, V.int ((p + 1 : Nat) : Int), V.int a, V.int b])
    have hrow1 : (upd H row (HO.lst [V.ref sc, V.int ((p + 1 : Nat) : Int), V.int a, V.int b])) row = some (.lst [.ref sc, .int ((p + 1 : Nat) : Int), .int a, .int b]) := upd_same
    have hsc1 : SqL K (upd H row (HO.lst [V.ref sc, V.int ((p + 1 : Nat) : Int), V.int a, V.int b])) sc (ns.map V.int) := sqL_far hne hsc _
    show tSeq _ _ _ _ (upd H row (HO.lst [V.ref sc, V.int ((p + 1 : Nat) : Int), V.int a, V.int b]))
    generalize upd H row (HO.lst [V.ref sc, V.int ((p + 1 : Nat) : Int), V.int a, V.int b]) = H1 at g1 hrow1 hsc1 ⊢
    walk_at "rd"
    refine ⟨row, _, _, _, rfl, rfl, SqL.of hrow1, rfl, ?_⟩
    walk_at "rd"
    refine ⟨row, _, _, _, rfl, rfl, SqL.of hrow1, rfl, ?_⟩
    walk_at "rd"
    refine ⟨sc, _, rfl, .inl hsc1, ?_⟩
    rw [List.length_map]
    walk_at "rd"
    by_cases hl : ns.length < p + 1
    · (refine iteT ?_ ?_; (· exact decide_eq_true (by omega)))
      walk_at "rd"
      refine ⟨row, _, _, _, rfl, rfl, SqL.of hrow1, rfl, ?_⟩
      walk_at "rd"
      refine .inl ⟨_, rfl, ?_⟩
      walk_at "rd"
      refine ⟨row, _, _, 2, rfl, rfl, hrow1, rfl, ?_⟩
      walk_at "rd"
      refine ⟨row, _, _, _, rfl, rfl, SqL.of upd_same, rfl, ?_⟩
      walk_at "rd"
      refine .inl ⟨_, rfl, ?_⟩
      walk_at "rd"
      refine ⟨show (0 : Int) < (m : Nat) by omega, ?_⟩
      obtain ⟨r, hr9, er⟩ := rng ((((a * 48271 + 11) % 2147483647 : Int)) / 7)
      show Q (V.int (((a * 48271 + 11) % 2147483647 / 7) % (m : Int))) _
      rw [er]
      exact q r _ hr9 (SameR.up g1 _) ⟨p + 1, _, b, hne, sqL_far hne hsc1 _, upd_same⟩
    · (refine iteF ?_ ?_; (· exact decide_eq_false (by omega)))
      walk_at "rd"
      refine ⟨row, _, _, _, rfl, rfl, SqL.of hrow1, rfl, ?_⟩
      walk_at "rd"
      refine ⟨row, _, _, _, rfl, rfl, SqL.of hrow1, rfl, ?_⟩
      walk_at "rd"
      obtain ⟨c, hc⟩ := get_ex (xs := ns) (i := p) (by omega)
      refine ⟨sc, _, _, _, rfl, rfl, hsc1, at_of (j := p) (by omega) (by rw [List.getElem?_map, hc]; rfl), ?_⟩
      walk_at "rd"
      refine ⟨row, _, _, _, rfl, rfl, SqL.of hrow1, rfl, ?_⟩
      walk_at "rd"
      refine .inl ⟨_, rfl, ?_⟩
      walk_at "rd"
      refine ⟨row, _, _, 2, rfl, rfl, hrow1, rfl, ?_⟩
      walk_at "rd"
      obtain ⟨r, hr9, er⟩ := rng c
      by_cases hbig : (10 : Int) ^ (18 : Int).toNat ≤ c
      · (refine iteT ?_ ?_; (· exact decide_eq_true hbig))
        walk_at "rd"
        refine ⟨⟨by omega, by omega⟩, ?_⟩
        walk_at "rd"
        refine ⟨row, _, _, 3, rfl, rfl, upd_same, rfl, ?_⟩
        walk_at "rd"
        refine .inl ⟨_, rfl, ?_⟩
        walk_at "rd"
        refine ⟨show (0 : Int) < (m : Nat) by omega, ?_⟩
        show Q (V.int (c % (m : Int))) _
        rw [er]
        exact q r _ hr9 (SameR.up (SameR.up g1 _) _) ⟨p + 1, _, _, hne, sqL_far hne (sqL_far hne hsc1 _) _, upd_same⟩
      · (refine iteF ?_ ?_; (· exact decide_eq_false hbig))
        walk_at "rd"
        refine .inl ⟨_, rfl, ?_⟩
        walk_at "rd"
        refine ⟨show (0 : Int) < (m : Nat) by omega, ?_⟩
        show Q (V.int (c % (m : Int))) _
        rw [er]
        exact q r _ hr9 (SameR.up g1 _) ⟨p + 1, _, _, hne, sqL_far hne hsc1 _, upd_same⟩
abbrev n_law_pick : List Str := ["_law_row", "_law_things"]
theorem sc_law_pick : FnScope n_law_pick ["_law_row", "_law_things"] (defScope s_law_pick) := ⟨rfl, rfl, rfl, by decide +kernel, rfl, by decide +kernel, by decide +kernel⟩
def spPick (K : PySem.W.Frag) : Sp := fun vs H Q _ => ∃ (row : Addr) (x : V), vs = [.ref row, x] ∧ ∃ (sc : Addr) (ns : List Int), DrawH K H row sc ns ∧
  ((∃ z : Str, x = .str z ∧ 0 < z.length ∧ z.length ≤ 100 ∧ ∀ c ∈ z.cps.toList, ∀ H', SameR row H H' → DrawH K H' row sc ns → Q (.str ⟨#[c]⟩) H') ∨
   ∃ (l : Addr) (xs : List V), x = .ref l ∧ l ≠ row ∧ H l = some (.lst xs) ∧ 0 < xs.length ∧ xs.length ≤ 100 ∧ ∀ v ∈ xs, ∀ H', SameR row H H' → DrawH K H' row sc ns → Q v H')
theorem ok_law_pick (T : Bt mg) (G_law_taken : Has P w K mg base 1 "_law_taken" ["_law_row", "_law_many"] (spTaken K)) (F : FnP K "_law_pick" s_law_pick f fd) : FnOk P w K mg base CX0 2 f fd ["_law_row", "_law_things"] (spPick K) := by
  refine F.ok sc_law_pick (fun vs H Q E h => ?_) (fun cdv A outer s H vs Q E hr h => ?_)
  · obtain ⟨row, x, rfl, sc, ns, hd, q⟩ := h
    rfl
  obtain ⟨row, x, rfl, sc, ns, hd, q⟩ := h
  refine ⟨_, (pss_one (ps_ret (pe_ix ix_seq (pv 1) (pe_fn G_law_taken (hr.mono (by decide)) (pa_cons (pv 0) (pa_cons (pe_callB call_len (by rfl) T.len (by decide +kernel) (pa_cons (pv 1) pa_nil)) pa_nil))) (fun _ _ => rfl)))), ?_⟩
  rcases q with ⟨z, rfl, hz, hz2, q⟩ | ⟨l, xs, rfl, hne, hl, hx, hx2, q⟩
  · walk_at "rd"
    refine ⟨_, z.length, rfl, ⟨Nat.le_of_lt (sz100 hz2), rfl⟩, ?_⟩
    refine ⟨row, z.length, rfl, hz, by omega, sc, ns, hd, fun r H1 hr1 g1 hd1 => ?_⟩
    obtain ⟨c, hc⟩ := get_ex (xs := z.cps.toList) (i := r) hr1
    refine .inr (.inr ⟨z, _, c, rfl, rfl, Nat.le_of_lt (sz100 hz2), atI_nat hc, ?_⟩)
    exact q c (List.mem_of_getElem? hc) _ g1 hd1
  · walk_at "rd"
    refine ⟨_, xs.length, rfl, .inl ⟨xs, SqL.of hl, rfl⟩, ?_⟩
    refine ⟨row, xs.length, rfl, hx, by omega, sc, ns, hd, fun r H1 hr1 g1 hd1 => ?_⟩
    obtain ⟨c, hc⟩ := get_ex (xs := xs) (i := r) hr1
    refine .inl ⟨l, xs, _, c, rfl, rfl, SqL.of (g1 _ _ hne hl), at_of (j := r) rfl hc, ?_⟩
    exact q c (List.mem_of_getElem? hc) _ g1 hd1
abbrev n_law_alike : List Str := ["_law_found", "_law_due"]
theorem sc_law_alike : FnScope n_law_alike ["_law_found", "_law_due"] (defScope s_law_alike) := ⟨rfl, rfl, rfl, by decide +kernel, rfl, by decide +kernel, by decide +kernel⟩
def spAlike : Sp := fun vs H Q _ => ∃ i j : Int, vs = [.int i, .int j] ∧ ∀ H', Same H H' → Q (.bl (decide (i = j))) H'
theorem ok_law_alike (T : Bt mg) (F : FnP K "_law_alike" s_law_alike f fd) : FnOk P w K mg base CX0 1 f fd ["_law_found", "_law_due"] spAlike := by
  refine F.ok sc_law_alike (fun vs H Q E h => ?_) (fun cdv A outer s H vs Q E hr h => ?_)
  · obtain ⟨i, j, rfl, q⟩ := h
    rfl
  obtain ⟨i, j, rfl, q⟩ := h
  refine ⟨_, (pss_cons (ps_if (pt_val (pe_callB call_isiT (by rfl) T.isi (by decide +kernel) (pa_cons (pv 1) (pa_cons (pe_tup (pa_cons (pe_bltn (v := .ty "tuple") (u := .type "tuple") (by rfl) T.tuple (by decide +kernel) rfl) (pa_cons (pe_bltn (v := .ty "list") (u := .type "list") (by rfl) T.list (by decide +kernel) rfl) pa_nil))) pa_nil)))) pss_never pss_nil)
  (pss_cons (ps_if (PW.pt (pw_or (pt_cmpR op_isN (pv 1) pe_non (nomark _)) (pw_or1 (pt_val (pe_callB call_isi (by rfl) T.isi (by decide +kernel) (pa_cons (pv 1) (pa_cons (pe_bltn (v := .ty "str") (u := .type "str") (by rfl) T.str (by decide +kernel) rfl) pa_nil))))))) (pss_one (ps_ret (pe_and (pe_cmpR op_eq (pv 0) (pv 1) (nomark _)) (pe_one (pe_cmpR op_eq (pe_callB call_isi (by rfl) T.isi (by decide +kernel) (pa_cons (pv 0) (pa_cons (pe_bltn (v := .ty "str") (u := .type "str") (by rfl) T.str (by decide +kernel) rfl) pa_nil))) (pe_callB call_isi (by rfl) T.isi (by decide +kernel) (pa_cons (pv 1) (pa_cons (pe_bltn (v := .ty "str") (u := .type "str") (by rfl) T.str (by decide +kernel) rfl) pa_nil))) (nomark _)))))) pss_nil)
  (pss_one (ps_ret (pe_and (pe_callB call_isi (by rfl) T.isi (by decide +kernel) (pa_cons (pv 0) (pa_cons (pe_bltn (v := .ty "int") (u := .type "int") (by rfl) T.int (by decide +kernel) rfl) pa_nil))) (pe_and (pe_cmpR op_eq (pe_callB call_isi (by rfl) T.isi (by decide +kernel) (pa_cons (pv 0) (pa_cons (pe_bltn (v := .ty "bool") (u := .type "bool") (by rfl) T.bool (by decide +kernel) rfl) pa_nil))) (pe_callB call_isi (by rfl) T.isi (by decide +kernel) (pa_cons (pv 1) (pa_cons (pe_bltn (v := .ty "bool") (u := .type "bool") (by rfl) T.bool (by decide +kernel) rfl) pa_nil))) (nomark _)) (pe_one (pe_cmpR op_eq (pv 0) (pv 1) (nomark _))))))))), ?_⟩
  walk_at "rd"
  intro p hp
  walk_at "rd"
  refine ⟨_, p, _, _, _, false, rfl, upd_same, .cons (.ty _) (.cons (.ty _) .nil), .base (.int _), ?_, ?_⟩
  · simp only [PySem.W.kitAny, kit_ty (show kitB "int" "tuple" = some false by decide +kernel), kit_ty (show kitB "int" "list" = some false by decide +kernel)]
  walk_at "rd"
  refine ⟨_, _, _, _, false, rfl, .ty _, .base (.int _), kit_ty (by decide +kernel), ?_⟩
  walk_at "rd"
  refine ⟨_, _, _, _, true, rfl, .ty _, .base (.int _), kit_ty (by decide +kernel), ?_⟩
  walk_at "rd"
  refine ⟨_, _, _, _, false, rfl, .ty _, .base (.int _), kit_ty (by decide +kernel), ?_⟩
  walk_at "rd"
  refine ⟨_, _, _, _, false, rfl, .ty _, .base (.int _), kit_ty (by decide +kernel), ?_⟩
  walk_at "rd"
  have e : decide (V.int i = V.int j) = decide (i = j) := by
    rw [Bool.eq_iff_iff]
    simp
  rw [e]
  exact q _ (same_new hp _)
end
end Kl

/-! ## D19 -/
namespace Kl
open PySem PySem.Spec PyProof.Rows L2
local macro_rules | `(tactic| walk_at "rd") => `(tactic| repeat (first | refine ⟨_, rfl, ?_⟩ | refine ⟨_, _, rfl, rfl, ?_⟩ | refine ⟨_, _, rfl, ?_⟩ | refine ⟨rfl, ?_⟩ | refine ⟨Or.inl ⟨by decide, by decide⟩, ?_⟩ | refine ⟨Or.inr ⟨by decide, by decide⟩, ?_⟩ | refine ⟨⟨by decide, by decide⟩, ?_⟩ | refine ⟨by decide, ?_⟩ | refine ⟨show (0 : Int) < _ from by decide, ?_⟩))
theorem DrawH.lst {K : PySem.W.Frag} {H : Hp} {row sc : Addr} {ns : List Int} (h : DrawH K H row sc ns) : ∀ xs, H row ≠ some (.tup xs) := by
  obtain ⟨p, a, b, _, _, h3⟩ := h
  exact notTup_lst h3
theorem SameR.t {row : Addr} {H H' : Hp} (g : SameR row H H') (h : ∀ xs, H row ≠ some (.tup xs)) : TSame H H' := fun b xs e => g b _ (fun z => h xs (by rw [← z]; exact e)) e
theorem ite_post {c : Bool} {ta tb : TE} {σ : L2.St} {H : Hp} {Q : VK} (Post : V → Hp → Prop) (h1 : c = true → ∀ Q : VK, (∀ v H', Post v H' → Q v H') → ta σ H Q) (h2 : c = false → ∀ Q : VK, (∀ v H', Post v H' → Q v H') → tb σ H Q)
    (h : ∀ v H', Post v H' → Q v H') : if c = true then ta σ H Q else tb σ H Q := by
  cases c with
  | true => exact h1 rfl Q h
  | false => exact h2 rfl Q h
theorem DrawH.new {K : PySem.W.Frag} {H : Hp} {row sc p : Addr} {ns : List Int} (h : DrawH K H row sc ns) (hp : H p = none) (o : HO) : DrawH K (upd H p o) row sc ns := h.mono (same_new hp o)
theorem DrawH.ne {K : PySem.W.Frag} {H : Hp} {row sc p : Addr} {ns : List Int} (h : DrawH K H row sc ns) (hp : H p = none) : p ≠ row := fun e => by
  obtain ⟨_, _, _, _, _, h3⟩ := h
  rw [e, h3] at hp
  cases hp
theorem lo_snoc {pre : Reg} {c : Nat × Nat} {i : Nat} : lo (pre ++ [c]) i = if i = pre.length then c.1 else lo pre i := by
  unfold lo
  rw [List.getD_eq_getElem?_getD, List.getD_eq_getElem?_getD]
  by_cases h : i = pre.length
  · subst h
    simp
  · rw [if_neg h]
    by_cases h2 : i < pre.length
    · rw [List.getElem?_append_left h2]
    · rw [List.getElem?_eq_none (by simp; omega), List.getElem?_eq_none (by omega)]
theorem hi_snoc {pre : Reg} {c : Nat × Nat} {i : Nat} : hi (pre ++ [c]) i = if i = pre.length then c.2 else hi pre i := by
  unfold hi
  rw [List.getD_eq_getElem?_getD, List.getD_eq_getElem?_getD]
  by_cases h : i = pre.length
  · subst h
    simp
  · rw [if_neg h]
    by_cases h2 : i < pre.length
    · rw [List.getElem?_append_left h2]
    · rw [List.getElem?_eq_none (by simp; omega), List.getElem?_eq_none (by omega)]
theorem reg_one {t T : Nat} (h : t ≤ T) : RegOk [(0, t)] 1 T := ⟨Nat.le_refl _, Nat.le_refl _, rfl, fun i hi => by
  have : i = 0 := by simpa using hi
  subst this
  exact ⟨Nat.zero_le _, h⟩, fun i hi => by simp at hi⟩
theorem reg_snoc {pre : Reg} {x T l t : Nat} (ok : RegOk pre x T) (h1 : lo pre (pre.length - 1) ≤ l) (h2 : l ≤ hi pre (pre.length - 1)) (h3 : hi pre (pre.length - 1) ≤ t) (h4 : t ≤ T) : RegOk (pre ++ [(l, t)]) (x + 1) T := by
  have p := ok.pos
  refine ⟨by simp, by simpa using ok.wide, ?_, fun i hi => ?_, fun i hi => ?_⟩
  · rw [lo_snoc, if_neg (by omega)]
    exact ok.first
  · rw [lo_snoc, hi_snoc]
    by_cases e : i = pre.length
    · rw [if_pos e, if_pos e]
      exact ⟨Nat.le_trans h2 h3, h4⟩
    · rw [if_neg e, if_neg e]
      exact ok.col i (by simp at hi; omega)
  · rw [lo_snoc, hi_snoc, lo_snoc, hi_snoc]
    have hl : i + 1 < pre.length + 1 := by simpa using hi
    by_cases e : i + 1 = pre.length
    · rw [if_pos e, if_pos e, if_neg (by omega), if_neg (by omega), show i = pre.length - 1 by omega]
      exact ⟨h1, h2, h3⟩
    · rw [if_neg e, if_neg e, if_neg (by omega), if_neg (by omega)]
      exact ok.step i (by omega)
section
variable {P : Program} {w : World} {K : PySem.W.Frag} {mg : Str → Option Value} {base : Heap} {f : Addr} {fd : FuncData}
abbrev n_law_region : List Str := ["_law_row", "_law_wide", "_law_high", "_law_columns", "_law_low", "_law_top", "_law_kind", "_law_x"]
theorem sc_law_region : FnScope n_law_region ["_law_row", "_law_wide", "_law_high"] (defScope s_law_region) := ⟨rfl, rfl, rfl, by decide +kernel, rfl, by decide +kernel, by decide +kernel⟩
def spLawRegion (K : PySem.W.Frag) : Sp := fun vs H Q _ => ∃ (row : Addr) (W T : Nat), vs = [.ref row, .int (W : Nat), .int (T : Nat)] ∧ W < 50 ∧ T < 50 ∧ ∃ (sc : Addr) (ns : List Int), DrawH K H row sc ns ∧
  ∀ p g H', SameR row H H' → DrawH K H' row sc ns → RegH H' p g → RegOk g (W + 1) T → Q (.ref p) H'
theorem ok_law_region (T : Bt mg) (G_law_taken : Has P w K mg base 1 "_law_taken" ["_law_row", "_law_many"] (spTaken K)) (F : FnP K "_law_region" s_law_region f fd) : FnOk P w K mg base CX0 2 f fd ["_law_row", "_law_wide", "_law_high"] (spLawRegion K) := by
  refine F.ok sc_law_region (fun vs H Q E h => ?_) (fun cdv A outer s H vs Q E hr h => ?_)
  · obtain ⟨row, W, Tp, rfl, hW, hT, sc, ns, hd, q⟩ := h
    rfl
  obtain ⟨row, W, Tp, rfl, hW, hT, sc, ns, hd, q⟩ := h
  refine ⟨_, (PSs.nox (pss_cons (ps_par3 (i := 3) (j := 4) (l := 5) (by rfl) sc_law_region.nd rfl rfl rfl (by decide) (by decide) (by decide) rfl rfl rfl (pa_cons (pe_lst pa_nil) (pa_cons pe_int (pa_cons (pe_fn G_law_taken (hr.mono (by decide)) (pa_cons (pv 0) (pa_cons (pe_op op_add (pv 2) pe_int) pa_nil))) pa_nil))) (by rfl))
  (pss_cons (ps_set (i := 6) sc_law_region.nd rfl (Or.inl rfl) (pe_fn G_law_taken (hr.mono (by decide)) (pa_cons (pv 0) (pa_cons pe_int pa_nil))))
  (pss_cons (ps_for PassesOwn.never rfl (pi_range1 (by rfl) T.range (pa_cons (pe_op op_add pe_int (pe_fn G_law_taken (hr.mono (by decide)) (pa_cons (pv 0) (pa_cons (pe_op op_add (pv 1) pe_int) pa_nil)))) pa_nil)) (pg_name (i := 7) sc_law_region.nd rfl (Or.inl rfl)) (pss_cons (ps_if (pt_cmpR op_gt (pv 7) pe_int (nomark _)) (pss_cons (ps_set (i := 4) sc_law_region.nd rfl (Or.inl rfl) (pe_ifExp (pt_cmpR op_gt (pv 6) pe_int (nomark _)) (pe_op op_add (pv 4) (pe_fn G_law_taken (hr.mono (by decide)) (pa_cons (pv 0) (pa_cons (pe_op op_add (pe_op op_sub (pv 5) (pv 4)) pe_int) pa_nil)))) (pv 4)))
  (pss_one (ps_set (i := 5) sc_law_region.nd rfl (Or.inl rfl) (pe_ifExp (pt_cmpR op_ne (pv 6) pe_int (nomark _)) (pe_op op_add (pv 5) (pe_fn G_law_taken (hr.mono (by decide)) (pa_cons (pv 0) (pa_cons (pe_op op_add (pe_op op_sub (pv 2) (pv 5)) pe_int) pa_nil)))) (pe_callB (call_min2 rfl) (by rfl) T.min (by decide +kernel) (pa_cons (pv 2) (pa_cons (pe_op op_add (pv 5) pe_int) pa_nil))))))) pss_nil)
  (pss_one (ps_expr (pe_bm PySem.F.plainAttrs_list PySem.F.slot_list_append PySem.F.type_list_append mt_append (pv 3) (pa_cons (pe_tup (pa_cons (pv 4) (pa_cons (pv 5) pa_nil))) pa_nil))))))
  (pss_one (ps_ret (pe_callTy call_tuple_of (by rfl) T.tuple (by decide +kernel) (pa_cons (pv 3) pa_nil)))))))), ?_⟩
  walk_at "rd"
  intro D hD
  walk_at "rd"
  have hDr : D ≠ row := hd.ne hD
  have far := hd.far hD
  have hd1 := hd.new hD (HO.lst [])
  have hD1 : (upd H D (HO.lst [])) D = some (.lst []) := upd_same
  have g1 := SameR.of (p := row) (same_new hD (HO.lst []))
  generalize upd H D (HO.lst []) = H1 at hd1 hD1 g1 ⊢
  refine ⟨show 0 < Tp + 1 by omega, show Tp + 1 < 1000 by omega, sc, ns, hd1, fun top H2 (htop : top < Tp + 1) g2 hd2 => ?_⟩
  have hD2 := g2 _ _ hDr hD1
  walk_at "rd"
  refine ⟨_, _, _, rfl, ?_⟩
  walk_at "rd"
  refine ⟨sc, ns, hd2, fun (kind : Nat) H3 hkind g3 hd3 => ?_⟩
  have hD3 := g3 _ _ hDr hD2
  walk_at "rd"
  refine ⟨show 0 < W + 1 by omega, show W + 1 < 1000 by omega, sc, ns, hd3, fun cols H4 (hcols : cols < W + 1) g4 hd4 => ?_⟩
  have hD4 := g4 _ _ hDr hD3
  have g14 := ((g1.trans g2).trans g3).trans g4
  walk_at "rd"
  refine ⟨by omega, by omega, ?_⟩
  rw [show ((1 : Int) + (cols : Int)).toNat = cols + 1 by omega]
  refine for_it walk_range (fun x σ H' => SameR row H H' ∧ DrawH K H' row sc ns ∧ ∃ (pre : Reg) (us : List V) (l t : Nat) (y : Option V), H' D = some (.lst us) ∧ Paired (ColH H') us pre ∧ pre.length = x ∧ l ≤ t ∧ t ≤ Tp ∧
      ((x = 0 ∧ l = 0) ∨ (0 < x ∧ RegOk pre x Tp ∧ lo pre (x - 1) = l ∧ hi pre (x - 1) = t)) ∧
      σ = [some (.ref row), some (.int W), some (.int Tp), some (.ref D), some (.int l), some (.int t), some (.int kind), y])
    ⟨g14, hd4, [], [], 0, top, none, hD4, .nil, rfl, Nat.zero_le _, by omega, .inl ⟨rfl, rfl⟩, rfl⟩ (fun _ _ _ _ _ => trivial) ?_ (fun σ H5 p5 => ?_)
  · rintro x i0 σ H5 H6 hx ⟨g5, hd5, pre, us, l, t, y0, hD5, pr, hpl, hlt, htT, inv, rfl⟩ ⟨rfl, rfl⟩
    refine seq_val (fun σ' H' => SameR row H6 H' ∧ DrawH K H' row sc ns ∧ ∃ l' t' : Nat, l ≤ l' ∧ l' ≤ t ∧ t ≤ t' ∧ t' ≤ Tp ∧ (x = 0 → l' = l) ∧
      σ' = [some (.ref row), some (.int W), some (.int Tp), some (.ref D), some (.int l'), some (.int t'), some (.int kind), some (.int x)]) (fun D9 q9 => ?_) ?_
    · walk_at "rd"
      by_cases hx0 : 0 < x
      · (refine iteT ?_ ?_; (· exact decide_eq_true (by omega)))
        refine seq_val (fun σ' H' => SameR row H6 H' ∧ DrawH K H' row sc ns ∧ ∃ l' : Nat, l ≤ l' ∧ l' ≤ t ∧ σ' = [some (.ref row), some (.int W), some (.int Tp), some (.ref D), some (.int l'), some (.int t), some (.int kind), some (.int x)]) (fun D8 q8 => ?_) ?_
        · walk_at "rd"
          refine ite_post (fun v H' => SameR row H6 H' ∧ DrawH K H' row sc ns ∧ ∃ l' : Nat, l ≤ l' ∧ l' ≤ t ∧ v = .int l') (fun c Q q => ?_) (fun c Q q => ?_) (fun v H' => ?_)
          · walk_at "rd"
            refine ⟨row, t - l + 1, ?_, by omega, by omega, sc, ns, hd5, fun r H7 hr7 g7 hd7 => ?_⟩
            · show [V.ref row, V.int ((t : Int) - (l : Int) + 1)] = _
              rw [show ((t : Int) - (l : Int) + 1) = ((t - l + 1 : Nat) : Int) by omega]
            · walk_at "rd"
              exact q _ _ ⟨g7, hd7, l + r, by omega, by omega, rfl⟩
          · walk_at "rd"
            exact q _ _ ⟨SameR.refl _ _, hd5, l, Nat.le_refl _, hlt, rfl⟩
          · rintro ⟨a1, a2, l', a3, a4, rfl⟩
            exact q8 _ _ ⟨a1, a2, l', a3, a4, by simp⟩
        · rintro _ H7 ⟨a1, a2, l', a3, a4, rfl⟩
          walk_at "rd"
          refine ite_post (fun v H' => SameR row H6 H' ∧ DrawH K H' row sc ns ∧ ∃ t' : Nat, t ≤ t' ∧ t' ≤ Tp ∧ v = .int t') (fun c Q q => ?_) (fun c Q q => ?_) (fun v H' => ?_)
          · walk_at "rd"
            refine ⟨row, Tp - t + 1, ?_, by omega, by omega, sc, ns, a2, fun r H8 hr8 g8 hd8 => ?_⟩
            · show [V.ref row, V.int ((Tp : Int) - (t : Int) + 1)] = _
              rw [show ((Tp : Int) - (t : Int) + 1) = ((Tp - t + 1 : Nat) : Int) by omega]
            · walk_at "rd"
              exact q _ _ ⟨a1.trans g8, hd8, t + r, by omega, by omega, rfl⟩
          · walk_at "rd"
            refine q _ _ ⟨a1, a2, min (t + 1) Tp, by omega, by omega, ?_⟩
            show V.int (if ((t : Int) + 1) < (Tp : Int) then ((t : Int) + 1) else (Tp : Int)) = _
            rw [show (if ((t : Int) + 1) < (Tp : Int) then ((t : Int) + 1) else (Tp : Int)) = ((min (t + 1) Tp : Nat) : Int) by split <;> omega]
          · rintro ⟨e1, e2, t', e3, e4, rfl⟩
            exact q9 _ _ ⟨e1, e2, l', t', a3, a4, e3, e4, fun e => by omega, rfl⟩
      · (refine iteF ?_ ?_; (· exact decide_eq_false (by omega)))
        exact q9 _ _ ⟨SameR.refl _ _, hd5, l, t, Nat.le_refl _, hlt, Nat.le_refl _, htT, fun _ => rfl, by simp⟩
    · rintro _ H7 ⟨g7, hd7, l', t', b1, b2, b3, b4, b5, rfl⟩
      have hD7 := g7 _ _ hDr hD5
      have ts7 := g7.t hd5.lst
      have pr7 := paired_mono pr fun _ _ => ColH.mono ts7
      have lu := paired_len pr
      walk_at "rd"
      refine ⟨.inl ⟨rfl, _, SqL.of (hD7)⟩, ?_⟩
      walk_at "rd"
      refine ⟨by simp [sizeLine], fun cA hcA => ?_⟩
      walk_at "rd"
      have s8 := same_new hcA (HO.tup [V.int (l' : Nat), V.int (t' : Nat)])
      have hD8 := s8 _ _ hD7
      have hd8 := hd7.new hcA (HO.tup [V.int (l' : Nat), V.int (t' : Nat)])
      refine ⟨D, us, _, rfl, rfl, hD8, sz100 (by omega), ?_⟩
      have ts9 : TSame (upd H7 cA (HO.tup [V.int (l' : Nat), V.int (t' : Nat)])) (upd (upd H7 cA (HO.tup [V.int (l' : Nat), V.int (t' : Nat)])) D (HO.lst (us ++ [V.ref cA]))) := TSame.mut (TSame.refl _) (notTup_lst hD8)
      refine ⟨?_, ?_, pre ++ [(l', t')], us ++ [V.ref cA], l', t', _, upd_same, paired_snoc (paired_mono pr7 fun _ _ => ColH.mono ((Same.t s8).trans ts9)) ⟨cA, rfl, ts9 _ _ upd_same⟩, by simp [hpl], by omega, b4, .inr ⟨by omega, ?_, ?_, ?_⟩, rfl⟩
      · intro b u hb e
        have e8 := s8 b u ((g5.trans g7) b u hb e)
        rw [upd_ne (fun z => by rw [z, hD] at e; cases e)]
        exact e8
      · exact hd8.other far hDr _
      · rcases inv with ⟨i1, i2⟩ | ⟨i1, i2, i3, i4⟩
        · have e : pre = [] := by
            cases pre with
            | nil => rfl
            | cons _ _ => simp at hpl; omega
          rw [e, i1, b5 i1, i2]
          exact reg_one b4
        · rw [← hpl] at i3 i4
          exact reg_snoc i2 (by omega) (by omega) (by omega) b4
      · rw [lo_snoc, if_pos (by omega)]
      · rw [hi_snoc, if_pos (by omega)]
  · obtain ⟨g5, hd5, pre, us, l, t, y0, hD5, pr, hpl, hlt, htT, inv, rfl⟩ := p5
    walk_at "rd"
    refine ⟨D, _, rfl, .inl ⟨SqL.of hD5, fun p hp => ?_⟩⟩
    rcases inv with ⟨i1, _⟩ | ⟨_, i2, _, _⟩
    · omega
    refine q p pre _ (g5.trans (SameR.of (same_new hp _))) (hd5.new hp _) ⟨us, upd_same, paired_mono pr fun _ _ => ColH.mono (Same.t (same_new hp _))⟩ (i2.le (by omega) (Nat.le_refl _))
end
end Kl

/-! ## D20 -/
namespace Kl
open PySem PySem.Spec PyProof.Rows L2
local macro_rules | `(tactic| walk_at "rd") => `(tactic| repeat (first | refine ⟨_, rfl, ?_⟩ | refine ⟨_, _, rfl, rfl, ?_⟩ | refine ⟨_, _, rfl, ?_⟩ | refine ⟨rfl, ?_⟩ | refine ⟨Or.inl ⟨by decide, by decide⟩, ?_⟩ | refine ⟨Or.inr ⟨by decide, by decide⟩, ?_⟩ | refine ⟨⟨by decide, by decide⟩, ?_⟩ | refine ⟨by decide, ?_⟩ | refine ⟨show (0 : Int) < _ from by decide, ?_⟩))
theorem op_catAK {X : Cx} {K : PySem.W.Frag} (h : X.K = K) : OpR X (binaryOp .Add) (rCatA K) := by
  subst h
  exact op_catA
/-- all rows of that many values up to m -/
def listsOf : Nat → Nat → List (List Nat)
  | 0, _ => [[]]
  | n + 1, m => (listsOf n m).flatMap fun r => (List.range (m + 1)).map fun v => r ++ [v]
abbrev repRow (H : Hp) (v : V) (r : List Nat) : Prop := ∃ q, v = .ref q ∧ RowH H q (r.map some)
theorem repRow_mono {H H' : Hp} {v : V} {r : List Nat} (g : TSame H H') (h : repRow H v r) : repRow H' v r := let ⟨q, h1, h2⟩ := h; ⟨q, h1, RowH.mono h2 g⟩
def ListsH (H : Hp) (p : Addr) (rows : List (List Nat)) : Prop := ∃ us, H p = some (.lst us) ∧ Paired (repRow H) us rows
theorem ListsH.mono {H H' : Hp} {p : Addr} {rows : List (List Nat)} (h : ListsH H p rows) (g : Same H H') : ListsH H' p rows := let ⟨us, h1, h2⟩ := h; ⟨us, g _ _ h1, paired_mono h2 fun _ _ => repRow_mono (Same.t g)⟩
theorem flat_take {rows : List (List Nat)} {j : Nat} {r : List Nat} (h : rows[j]? = some r) (f : List Nat → List (List Nat)) : (rows.take (j + 1)).flatMap f = (rows.take j).flatMap f ++ f r := by
  rw [List.take_add_one, h, List.flatMap_append]
  simp
theorem flat_le (m : Nat) : ∀ rows : List (List Nat), (rows.flatMap fun r => (List.range (m + 1)).map fun v => r ++ [v]).length = rows.length * (m + 1)
  | [] => by simp
  | r :: rs => by
    rw [List.flatMap_cons, List.length_append, flat_le m rs, List.length_map, List.length_range, List.length_cons, Nat.succ_mul, Nat.add_comm]
theorem lists_len {n m : Nat} (hn : n ≤ 2) (hm : m ≤ 2) : (listsOf n m).length ≤ 9 := by
  match n, m, hn, hm with
  | 0, _, _, _ => show 1 ≤ 9; decide
  | 1, m, _, hm =>
    unfold listsOf
    rw [flat_le]
    show 1 * (m + 1) ≤ 9
    omega
  | 2, m, _, hm =>
    unfold listsOf
    rw [flat_le]
    unfold listsOf
    rw [flat_le]
    show 1 * (m + 1) * (m + 1) ≤ 9
    match m, hm with
    | 0, _ => decide
    | 1, _ => decide
    | 2, _ => decide
theorem lists_mem : ∀ {n m : Nat} {r : List Nat}, r ∈ listsOf n m → r.length = n ∧ ∀ v ∈ r, v ≤ m
  | 0, m, r, h => by
    obtain rfl := List.mem_singleton.mp h
    exact ⟨rfl, fun v hv => by cases hv⟩
  | n + 1, m, r, h => by
    obtain ⟨r0, h0, h1⟩ := List.mem_flatMap.mp h
    obtain ⟨v, hv, rfl⟩ := List.mem_map.mp h1
    obtain ⟨e1, e2⟩ := lists_mem h0
    refine ⟨by simp [e1], fun u hu => ?_⟩
    rcases List.mem_append.mp hu with hu | hu
    · exact e2 u hu
    · rw [List.mem_singleton.mp hu]
      exact Nat.le_of_lt_succ (List.mem_range.mp hv)
section
variable {P : Program} {w : World} {K : PySem.W.Frag} {mg : Str → Option Value} {base : Heap} {f : Addr} {fd : FuncData}
abbrev n_law_lists : List Str := ["_law_many", "_law_most", "_law_found", "_law_turn", "_law_longer", "_law_told", "_law_one"]
theorem sc_law_lists : FnScope n_law_lists ["_law_many", "_law_most"] (defScope s_law_lists) := ⟨rfl, rfl, rfl, by decide +kernel, rfl, by decide +kernel, by decide +kernel⟩
def spLists : Sp := fun vs H Q _ => ∃ (n m : Nat), vs = [.int (n : Nat), .int (m : Nat)] ∧ n ≤ 2 ∧ m ≤ 2 ∧ ∀ p H', Same H H' → ListsH H' p (listsOf n m) → Q (.ref p) H'
theorem ok_law_lists (T : Bt mg) (F : FnP K "_law_lists" s_law_lists f fd) : FnOk P w K mg base CX0 1 f fd ["_law_many", "_law_most"] spLists := by
  refine F.ok sc_law_lists (fun vs H Q E h => ?_) (fun cdv A outer s H vs Q E hr h => ?_)
  · obtain ⟨n, m, rfl, hn, hm, q⟩ := h
    rfl
  obtain ⟨n, m, rfl, hn, hm, q⟩ := h
  refine ⟨_, (PSs.nox (pss_cons (ps_set (i := 2) sc_law_lists.nd rfl (Or.inl rfl) (pe_lst (pa_cons (pe_tup pa_nil) pa_nil)))
  (pss_cons (ps_for PassesOwn.never rfl (pi_range1 (by rfl) T.range (pa_cons (pv 0) pa_nil)) (pg_name (i := 3) sc_law_lists.nd rfl (Or.inl rfl)) (pss_cons (ps_set (i := 4) sc_law_lists.nd rfl (Or.inl rfl) (pe_lst pa_nil))
  (pss_cons (ps_for PassesOwn.never rfl (pi_list (pv 2)) (pg_name (i := 5) sc_law_lists.nd rfl (Or.inr rfl)) (pss_one (ps_set (i := 4) sc_law_lists.nd rfl (Or.inl rfl) (pe_op op_cat (pv 4) (pe_lc (own := [("_law_one", 6)]) (g := (gName 6)) (tt := tYes) rfl sc_law_lists.nd (pi_range1 (by rfl) T.range (pa_cons (pe_op op_add (pv 1) pe_int) pa_nil)) (blkOk_by (own := [("_law_one", 6)]) (N := n_law_lists) (sc := defScope s_law_lists) (by decide +kernel)) (fun _ _ _ _ _ => (pg_name (i := 6) sc_law_lists.nd rfl (Or.inl rfl))) (fun _ _ _ _ _ => pts_nil) (fun _ _ _ _ _ => (pe_op (op_catAK (K := K) rfl) (pv 5) (pe_tup (pa_cons (pv 6) pa_nil)))))))))
  (pss_one (ps_set (i := 2) sc_law_lists.nd rfl (Or.inl rfl) (pv 4))))))
  (pss_one (ps_ret (pv 2)))))), ?_⟩
  walk_at "rd"
  intro e0 he0
  walk_at "rd"
  refine ⟨by simp [sizeLine], fun f0 hf0 => ?_⟩
  have s1 := (same_new he0 (HO.tup [])).trans (same_new hf0 (HO.lst [V.ref e0]))
  have hf1 : ListsH (upd (upd H e0 (HO.tup [])) f0 (HO.lst [V.ref e0])) f0 (listsOf 0 m) := ⟨_, upd_same, .cons ⟨e0, rfl, same_new hf0 _ _ _ upd_same⟩ .nil⟩
  generalize upd (upd H e0 (HO.tup [])) f0 (HO.lst [V.ref e0]) = H1 at s1 hf1 ⊢
  walk_at "rd"
  refine ⟨by omega, by omega, ?_⟩
  rw [show ((n : Nat) : Int).toNat = n by omega]
  refine for_it walk_range (fun i σ H' => Same H H' ∧ ∃ (fp : Addr) (y z u v : Option V), ListsH H' fp (listsOf i m) ∧ σ = [some (.int n), some (.int m), some (.ref fp), y, z, u, v]) ⟨s1, f0, _, _, _, _, hf1, rfl⟩ (fun _ _ _ _ _ => trivial) ?_ (fun σ H2 p2 => ?_)
  · rintro i x σ H2 H3 hi ⟨g2, fp, y0, z0, u0, v0, ⟨us, hus, pus⟩, rfl⟩ ⟨rfl, rfl⟩
    have lu := paired_len pus
    have ll := lists_len (n := i) (m := m) (by omega) hm
    walk_at "rd"
    intro lp hlp
    walk_at "rd"
    have g3 := same_new hlp (HO.lst [])
    refine ⟨⟨_, SqL.of (g3 _ _ hus)⟩, ?_⟩
    refine for_it walk_list (fun j σ H' => Same H3 H' ∧ ∃ (lq : Addr) (u v : Option V), ListsH H' lq (((listsOf i m).take j).flatMap fun r => (List.range (m + 1)).map fun v => r ++ [v]) ∧ σ = [some (.int n), some (.int m), some (.ref fp), some (.int i), some (.ref lq), u, v])
      ⟨g3, lp, u0, v0, ⟨[], upd_same, .nil⟩, by simp⟩ (fun j σ H' _ p => SqL.of (p.1 _ _ hus)) ?_ (fun σ H4 p4 => ?_)
    · rintro j x σ H4 H5 hj ⟨g4, lq, u1, v1, ⟨ws, hws, pws⟩, rfl⟩ ⟨rfl, hx⟩
      obtain ⟨r, hr, tq, rfl, htq⟩ := paired_get pus hx
      have htq4 := RowH.mono htq (Same.t g4)
      have lw := paired_len pws
      rw [flat_le, List.length_take] at lw
      have lw2 : ws.length ≤ 27 := by
        rw [lw]
        have h1 : min j (listsOf i m).length ≤ 9 := by omega
        exact Nat.le_trans (Nat.mul_le_mul h1 (show m + 1 ≤ 3 by omega)) (by decide)
      walk_at "rd"
      refine ⟨by omega, by omega, ?_⟩
      rw [show ((m : Int) + 1).toNat = m + 1 by omega]
      intro D hD
      refine lc_rep walk_range repRow repRow_mono (fun k => some (r ++ [k])) hD (sz100 (by omega)) (fun _ _ => trivial) ?_ ?_
      · rintro k x H6 H7 R R0 hk g6 ⟨rfl, rfl⟩ kk k0
        walk_at "rd"
        refine ⟨by simp [sizeLine], fun t9 ht9 => ?_⟩
        have s9 := same_new ht9 (HO.tup [V.int (k : Nat)])
        have ht9b : (upd H7 t9 (HO.tup [V.int ((0 : Int) + (k : Nat))])) t9 = some (.tup [V.int (k : Nat)]) := by rw [upd_same, Int.zero_add]
        have htq6 := RowH.mono htq4 (Same.t g6)
        have ek : ((0 : Int) + ((k : Nat) : Int)) = (k : Nat) := by omega
        obtain ⟨rl, _⟩ := lists_mem (List.mem_of_getElem? hr)
        show rCatA K (V.ref tq) (V.ref t9) (upd H7 t9 (HO.tup [V.int ((0 : Int) + ((k : Nat) : Int))])) R
        rw [ek]
        refine ⟨tq, t9, _, _, rfl, rfl, SqT.of (s9 _ _ htq6), SqT.of upd_same, ?_, fun e => ?_, fun _ e => ?_, fun _ _ p hp => ?_⟩
        · simp only [List.length_map, List.length_cons, List.length_nil]
          exact Nat.le_of_lt (sz100 (by omega))
        · have er : r = [] := by
            cases r with
            | nil => rfl
            | cons _ _ => cases e
          refine kk _ _ _ rfl s9 ⟨t9, rfl, ?_⟩
          rw [er]
          exact upd_same
        · cases e
        · refine kk _ _ _ rfl (s9.trans (same_new hp _)) ⟨p, rfl, ?_⟩
          unfold RowH
          rw [upd_same, List.map_append, List.map_append]
          rfl
      · intro H6 as g6 has pas
        rw [fm_map] at pas
        have la := paired_len pas
        rw [List.length_map, List.length_range] at la
        walk_at "rd"
        refine ⟨lq, D, ws, as, rfl, rfl, g6 _ _ hws, has, Nat.le_of_lt (sz100 (by omega)), fun p9 hp9 => ?_⟩
        have s9 := same_new hp9 (HO.lst (ws ++ as))
        refine ⟨(g4.trans g6).trans s9, p9, _, _, ⟨_, upd_same, ?_⟩, rfl⟩
        rw [flat_take hr]
        exact paired_app (paired_mono pws fun _ _ => repRow_mono (Same.t (g6.trans s9))) (paired_mono pas fun _ _ => repRow_mono (Same.t s9))
    · obtain ⟨g4, lq, u1, v1, hl4, rfl⟩ := p4
      rw [lu, List.take_length] at hl4
      walk_at "rd"
      exact ⟨g2.trans g4, lq, _, _, _, _, hl4, rfl⟩
  · obtain ⟨g2, fp, y0, z0, u0, v0, hl2, rfl⟩ := p2
    walk_at "rd"
    exact q fp _ g2 hl2
end
end Kl

/-! ## D21 -/
namespace Kl
open PySem PySem.Spec PyProof.Rows L2
local macro_rules | `(tactic| walk_at "rd") => `(tactic| repeat (first | refine ⟨_, rfl, ?_⟩ | refine ⟨_, _, rfl, rfl, ?_⟩ | refine ⟨_, _, rfl, ?_⟩ | refine ⟨rfl, ?_⟩ | refine ⟨Or.inl ⟨by decide, by decide⟩, ?_⟩ | refine ⟨Or.inr ⟨by decide, by decide⟩, ?_⟩ | refine ⟨⟨by decide, by decide⟩, ?_⟩ | refine ⟨by decide, ?_⟩ | refine ⟨show (0 : Int) < _ from by decide, ?_⟩))
theorem joinL_nil : ∀ l : List (List Nat), TL.joinL [] l = l.flatten
  | [] => rfl
  | [p] => by simp [TL.joinL]
  | p :: q :: r => by
    show p ++ ([] ++ TL.joinL [] (q :: r)) = _
    rw [joinL_nil (q :: r)]
    simp
theorem join_cps (ys : List Str) : (Str.join (Str.ofString "") ys).cps.toList = ys.flatMap fun z => z.cps.toList := by
  have h := TL.tl_join (Str.ofString "") ys
  have e : TL.tl (Str.ofString "") = [] := by decide +kernel
  rw [e, joinL_nil] at h
  exact h
abbrev one (c : Nat) : Str := ⟨#[c]⟩
theorem lt_one (c d : Nat) : ltCps (one d).cps.toList (one c).cps.toList = decide (d < c) := by
  show (decide (d < c) || (d == c && false)) = _
  simp
theorem rising_pw : ∀ (cs : List Nat) (p : Nat), risingS (one p) (cs.map one) = true → (p :: cs).Pairwise (· ≤ ·)
  | [], p, _ => List.pairwise_singleton _ _
  | c :: cs, p, h => by
    have h : (!ltCps (one c).cps.toList (one p).cps.toList && risingS (one c) (cs.map one)) = true := h
    rw [Bool.and_eq_true, lt_one] at h
    have ih := rising_pw cs c h.2
    have h1 : p ≤ c := by
      have := h.1
      simp at this
      omega
    refine List.pairwise_cons.mpr ⟨fun x hx => ?_, ih⟩
    rcases List.mem_cons.mp hx with e | e
    · rw [e]; exact h1
    · exact Nat.le_trans h1 ((List.pairwise_cons.mp ih).1 x e)
theorem sorted_pw {cs : List Nat} (h : sortedS (cs.map one) = true) (hn : cs.Nodup) : cs.Pairwise (· < ·) := by
  have h1 : cs.Pairwise (· ≤ ·) := by
    cases cs with
    | nil => exact List.Pairwise.nil
    | cons c r => exact rising_pw r c h
  exact (h1.and hn).imp fun {a b} h => Nat.lt_of_le_of_ne h.1 h.2
theorem ones_of : ∀ {ys : List Str}, (∀ z ∈ ys, ∃ c, z = one c ∧ 97 ≤ c ∧ c ≤ 108) → ∃ cs : List Nat, ys = cs.map one ∧ ∀ c ∈ cs, 97 ≤ c ∧ c ≤ 108
  | [], _ => ⟨[], rfl, fun _ h => by cases h⟩
  | z :: ys, h => by
    obtain ⟨c, rfl, hc⟩ := h z List.mem_cons_self
    obtain ⟨cs, rfl, hcs⟩ := ones_of fun y hy => h y (List.mem_cons_of_mem _ hy)
    exact ⟨c :: cs, rfl, fun x hx => by
      rcases List.mem_cons.mp hx with e | e
      · rw [e]; exact hc
      · exact hcs x e⟩
theorem flat_ones (cs : List Nat) : ((cs.map one).flatMap fun z => z.cps.toList) = cs := by
  induction cs with
  | nil => rfl
  | cons c r ih =>
    rw [List.map_cons, List.flatMap_cons, ih]
    rfl
theorem foldS_mem : ∀ (l acc : List Str) (x : Str), x ∈ l.foldl addS acc → x ∈ acc ∨ x ∈ l
  | [], acc, x, h => .inl h
  | c :: l, acc, x, h => by
    rcases foldS_mem l _ x h with h | h
    · unfold addS at h
      split at h
      · exact .inl h
      · rcases List.mem_append.mp h with h | h
        · exact .inl h
        · exact .inr (by rw [List.mem_singleton.mp h]; exact List.mem_cons_self)
    · exact .inr (List.mem_cons_of_mem _ h)
theorem foldS_nodup : ∀ (l acc : List Str), acc.Nodup → (l.foldl addS acc).Nodup
  | [], _, h => h
  | c :: l, acc, h => by
    refine foldS_nodup l _ ?_
    unfold addS
    split
    · exact h
    · rename_i hn
      exact List.nodup_append.mpr ⟨h, List.pairwise_singleton _ _, fun x hx y hy => by
        rw [List.mem_singleton.mp hy]
        exact fun e => hn (by rw [← e]; exact hx)⟩
/-- sorted different signs, joined: a set of kinds -/
theorem join_set {xs ys : List Str} (hx : ∀ z ∈ xs, ∃ c, z = one c ∧ 97 ≤ c ∧ c ≤ 108) (hl : xs.length ≤ 12) (hp : ys.Perm (distS xs)) (hs : sortedS ys = true) : SetOk (Str.join (Str.ofString "") ys) ∧ ∃ cs : List Nat, ys = cs.map one ∧ cs.length ≤ 12 := by
  obtain ⟨cs, rfl, hc⟩ := ones_of (ys := ys) fun z hz => by
    rcases foldS_mem xs [] z (hp.mem_iff.mp hz) with h | h
    · cases h
    · exact hx z h
  have hn : (cs.map one).Nodup := hp.nodup_iff.mpr (foldS_nodup xs [] List.Pairwise.nil)
  have hn2 : cs.Nodup := List.Pairwise.imp (fun {a b} h e => h (by rw [e])) (List.pairwise_map.mp hn)
  have hlen : cs.length ≤ 12 := by
    have h1 := hp.length_eq
    rw [List.length_map] at h1
    have h2 := distS_le xs
    omega
  have e : (Str.join (Str.ofString "") (cs.map one)).cps.toList = cs := by rw [join_cps, flat_ones]
  refine ⟨⟨fun c hc' => hc c (by rw [e] at hc'; exact hc'), by rw [e]; exact sorted_pw hs hn2, ?_⟩, cs, rfl, hlen⟩
  have : (Str.join (Str.ofString "") (cs.map one)).length = cs.length := by
    show (Str.join (Str.ofString "") (cs.map one)).cps.size = _
    rw [← Array.length_toList, e]
  omega
theorem kinds_mem : ∀ c ∈ (Str.ofString "abcdefghijkl").cps.toList, 97 ≤ c ∧ c ≤ 108 := by decide +kernel
theorem cutS_to (z : Str) {k : Nat} (h : k ≤ z.length) : cutS z none (some (k : Nat)) = ⟨(z.cps.toList.take k).toArray⟩ := by
  have e : HT.sIx z.length z.length (some ((k : Nat) : Int)) = min k z.length := HT.sIx_nat z.length z.length k
  unfold cutS
  rw [e, HT.sIx_none, Nat.min_eq_left h]
  simp
theorem sum_ones (cs : List Nat) : ((cs.map one).map (·.length)).sum = cs.length := by
  induction cs with
  | nil => rfl
  | cons c r ih =>
    rw [List.map_cons, List.map_cons, List.sum_cons, ih, List.length_cons]
    show 1 + r.length = r.length + 1
    omega
section
variable {P : Program} {w : World} {K : PySem.W.Frag} {mg : Str → Option Value} {base : Heap} {f : Addr} {fd : FuncData}
abbrev n_law_lane : List Str := ["_law_row", "_law_most", "_law_many", "_law_kinds", "_law_things", "_law_at", "_law_thing", "_law_turn"]
theorem sc_law_lane : FnScope n_law_lane ["_law_row", "_law_most"] (defScope s_law_lane) := ⟨rfl, rfl, rfl, by decide +kernel, rfl, by decide +kernel, by decide +kernel⟩
def spLawLane (K : PySem.W.Frag) : Sp := fun vs H Q _ => ∃ (row : Addr) (M : Nat), vs = [.ref row, .int (M : Nat)] ∧ 0 < M ∧ M ≤ 9 ∧ ∃ (sc : Addr) (ns : List Int), DrawH K H row sc ns ∧
  ∀ p b r things H', SameR row H H' → DrawH K H' row sc ns → LaneH H' p b r things → (∀ z ∈ things, SetOk z) → b + r ≤ 8 → Q (.ref p) H'
theorem ok_law_lane (T : Bt mg) (G_law_taken : Has P w K mg base 1 "_law_taken" ["_law_row", "_law_many"] (spTaken K)) (G_law_pick : Has P w K mg base 2 "_law_pick" ["_law_row", "_law_things"] (spPick K)) (F : FnP K "_law_lane" s_law_lane f fd) : FnOk P w K mg base CX0 3 f fd ["_law_row", "_law_most"] (spLawLane K) := by
  refine F.ok sc_law_lane (fun vs H Q E h => ?_) (fun cdv A outer s H vs Q E hr h => ?_)
  · obtain ⟨row, M, rfl, h0, hM, sc, ns, hd, q⟩ := h
    rfl
  obtain ⟨row, M, rfl, h0, hM, sc, ns, hd, q⟩ := h
  refine ⟨_, (PSs.nox (pss_cons (ps_asg (pe_tup (pa_cons (pe_op op_add pe_int (pe_fn G_law_taken (hr.mono (by decide)) (pa_cons (pv 0) (pa_cons (pv 1) pa_nil)))) (pa_cons (pe_op op_add pe_int (pe_fn G_law_taken (hr.mono (by decide)) (pa_cons (pv 0) (pa_cons pe_int pa_nil)))) pa_nil))) (pg_tup rfl (pgs_cons (pg_name (i := 2) sc_law_lane.nd rfl (Or.inl rfl)) (pgs_cons (pg_name (i := 3) sc_law_lane.nd rfl (Or.inr rfl)) pgs_nil))))
  (pss_cons (ps_set (i := 4) sc_law_lane.nd rfl (Or.inl rfl) (pe_lst pa_nil))
  (pss_cons (ps_for PassesOwn.never rfl (pi_range1 (by rfl) T.range (pa_cons (pe_op op_sub (pe_op op_mul pe_int (pv 2)) pe_int) pa_nil)) (pg_name (i := 5) sc_law_lane.nd rfl (Or.inl rfl)) (pss_cons (ps_setLc (i := 6) (own := [("_law_turn", 7)]) (g := (gName 7)) (tt := tYes) rfl sc_law_lane.nd rfl rfl (sw_true rfl rfl rfl (by decide +kernel)) (pi_range1 (by rfl) T.range (pa_cons (pe_fn G_law_pick (hr.mono (by decide)) (pa_cons (pv 0) (pa_cons (pe_lst (pa_cons pe_int (pa_cons pe_int (pa_cons pe_int (pa_cons pe_int (pa_cons pe_int pa_nil)))))) pa_nil))) pa_nil)) (blkOk_by (own := [("_law_turn", 7)]) (N := n_law_lane) (sc := defScope s_law_lane) (by decide +kernel)) (fun _ _ _ _ _ => (pg_name (i := 7) sc_law_lane.nd rfl (Or.inl rfl))) (fun _ _ _ _ _ => pts_nil) (fun _ _ _ _ _ => (pe_fn G_law_pick (hr.mono (by decide)) (pa_cons (pv 0) (pa_cons (pe_slice sl_str pe_str po_none (po_some (pv 3))) pa_nil)))))
  (pss_one (ps_expr (pe_bm PySem.F.plainAttrs_list PySem.F.slot_list_append PySem.F.type_list_append mt_append (pv 4) (pa_cons (pe_join pe_str (pe_sortedSetS (by rfl) T.sorted (by rfl) T.set (pv 6))) pa_nil))))))
  (pss_one (ps_ret (pe_tup (pa_cons (pe_fn G_law_taken (hr.mono (by decide)) (pa_cons (pv 0) (pa_cons (pv 2) pa_nil))) (pa_cons (pe_callTy call_tuple_of (by rfl) T.tuple (by decide +kernel) (pa_cons (pv 4) pa_nil)) pa_nil))))))))), ?_⟩
  walk_at "rd"
  refine ⟨h0, by omega, sc, ns, hd, fun u H1 hu g1 hd1 => ?_⟩
  walk_at "rd"
  refine ⟨sc, ns, hd1, fun (v : Nat) H2 (hv : v < 6) g2 hd2 => ?_⟩
  walk_at "rd"
  refine ⟨by simp [sizeLine], fun t0 ht0 => ?_⟩
  have s3 := same_new ht0 (HO.tup [V.int ((1 : Int) + (u : Nat)), V.int ((1 : Int) + (v : Nat))])
  have hd3 := hd2.new ht0 (HO.tup [V.int ((1 : Int) + (u : Nat)), V.int ((1 : Int) + (v : Nat))])
  refine ⟨t0, _, rfl, SqT.of upd_same, rfl, ?_⟩
  walk_at "rd"
  intro D hD
  have g3 := (g1.trans g2).trans (SameR.of (p := row) s3)
  have far := hd3.far hD
  have hDr := hd3.ne hD
  have hD0 : H D = none := by
    cases e : H D with
    | none => rfl
    | some o => rw [show _ = some o from g3 D o hDr e] at hD; cases hD
  have hd4 := hd3.new hD (HO.lst [])
  have g4 := g3.trans (SameR.of (p := row) (same_new hD (HO.lst [])))
  walk_at "rd"
  refine ⟨by omega, by omega, ?_⟩
  refine for_it walk_range (fun i σ H' => SameR row H H' ∧ DrawH K H' row sc ns ∧ ∃ (zs : List Str) (x y z : Option V), H' D = some (.lst (zs.map V.str)) ∧ zs.length = i ∧ (∀ z ∈ zs, SetOk z) ∧
      σ = [some (.ref row), some (.int M), some (.int ((1 : Int) + (u : Nat))), some (.int ((1 : Int) + (v : Nat))), some (.ref D), x, y, z]) ⟨g4, hd4, [], _, _, _, upd_same, rfl, fun _ h => (by cases h), rfl⟩ (fun _ _ _ _ _ => trivial) ?_ (fun σ H5 p5 => ?_)
  · rintro i x σ H5 H6 hi ⟨g5, hd5, zs, x0, y0, z0, hD5, hzl, hzs, rfl⟩ ⟨rfl, rfl⟩
    walk_at "rd"
    intro l hl
    have s7 := same_new hl (HO.lst [V.int 0, V.int 0, V.int 1, V.int 1, V.int 2])
    refine ⟨row, .ref l, rfl, sc, ns, hd5.new hl _, .inr ⟨l, _, rfl, hd5.ne hl, upd_same, by decide, by decide, fun pv hpv H7 g7 hd7 => ?_⟩⟩
    obtain ⟨k, hk, rfl⟩ : ∃ k : Nat, k ≤ 2 ∧ pv = V.int (k : Nat) := by
      simp only [List.mem_cons, List.not_mem_nil, or_false] at hpv
      rcases hpv with rfl | rfl | rfl | rfl | rfl
      · exact ⟨0, by decide, rfl⟩
      · exact ⟨0, by decide, rfl⟩
      · exact ⟨1, by decide, rfl⟩
      · exact ⟨1, by decide, rfl⟩
      · exact ⟨2, by decide, rfl⟩
    have g57 := (SameR.of (p := row) s7).trans g7
    have hD7 := g57 _ _ hDr hD5
    walk_at "rd"
    refine ⟨by omega, by omega, ?_⟩
    intro D2 hD2
    have far2 := hd7.far hD2
    have hD2r := hd7.ne hD2
    have nDD : D ≠ D2 := ne_of_none hD7 hD2
    refine lc_it walk_range (fun j H' => SameR row H7 H' ∧ DrawH K H' row sc ns ∧ ∃ xs : List Str, H' D2 = some (.lst (xs.map V.str)) ∧ xs.length = j ∧ ∀ z ∈ xs, ∃ c, z = one c ∧ 97 ≤ c ∧ c ≤ 108)
      ⟨SameR.of (same_new hD2 _), hd7.new hD2 _, [], upd_same, rfl, fun _ h => (by cases h)⟩ (fun _ _ _ _ => trivial) ?_ (fun H' p => ?_)
    · rintro j x H8 H9 hj ⟨g8, hd8, xs, hxs, hxl, hxc⟩ ⟨rfl, rfl⟩
      refine ⟨rfl, ?_⟩
      walk_at "rd"
      have ek : ((1 : Int) + (v : Nat)) = ((v + 1 : Nat) : Int) := by omega
      have lk : (Str.ofString "abcdefghijkl").length = 12 := by decide +kernel
      have lkl : (Str.ofString "abcdefghijkl").cps.toList.length = 12 := by decide +kernel
      rw [ek, cutS_to _ (by omega)]
      refine ⟨sc, ns, hd8, .inl ⟨_, rfl, ?_, ?_, fun c hc H10 g10 hd10 => ?_⟩⟩
      · show 0 < (List.toArray _).size
        rw [List.size_toArray, List.length_take, lkl]
        omega
      · show (List.toArray _).size ≤ 100
        rw [List.size_toArray, List.length_take, lkl]
        omega
      · have hc2 := kinds_mem c (List.mem_of_mem_take hc)
        have hxs10 := g10 _ _ hD2r hxs
        refine ⟨_, hxs10, ?_, ?_, hd10.other far2 hD2r _, xs ++ [one c], ?_, by simp [hxl], fun z hz => ?_⟩
        · rw [List.length_map]
          have : j < (k : Int).toNat := hj
          exact sz100 (by omega)
        · intro b o hb e
          rw [upd_ne (fun z => by rw [z, hD2] at e; cases e)]
          exact (g8.trans g10) b o hb e
        · rw [upd_same, List.map_append]
          rfl
        · rcases List.mem_append.mp hz with h | h
          · exact hxc z h
          · exact ⟨c, List.mem_singleton.mp h, hc2⟩
    · obtain ⟨g8, hd8, xs, hxs, hxl, hxc⟩ := p
      have hD8 := g8 _ _ hDr hD7
      have hxl2 : xs.length ≤ 2 := by omega
      walk_at "rd"
      refine ⟨.inl ⟨rfl, _, SqL.of (hD8)⟩, ?_⟩
      walk_at "rd"
      refine ⟨⟨_, rfl⟩, ?_⟩
      walk_at "rd"
      refine ⟨D2, xs, rfl, SqL.of hxs, by omega, fun ys l9 hp hs hl9 => ?_⟩
      obtain ⟨jok, cs, rfl, hcs⟩ := join_set hxc (by omega) hp hs
      refine ⟨_, l9, cs.map one, rfl, rfl, .inl (SqL.of upd_same), ?_, ?_⟩
      · rw [sum_ones, List.length_map]
        have e0 : (Str.ofString "").length = 0 := by decide +kernel
        rw [e0]
        omega
      walk_at "rd"
      have s9 := same_new hl9 (HO.lst ((cs.map one).map V.str))
      have hD9 := s9 _ _ hD8
      refine ⟨D, _, _, rfl, rfl, hD9, ?_, ?_, (hd8.new hl9 _).other far hDr _, zs ++ [Str.join (Str.ofString "") (cs.map one)], _, _, _, ?_, by simp [hzl], fun z hz => ?_, rfl⟩
      · rw [List.length_map]
        have : i < (2 * (1 + (u : Int)) - 1).toNat := hi
        exact sz100 (by omega)
      · intro b o hb e
        rw [upd_ne (fun z => by rw [z, hD0] at e; cases e)]
        exact s9 b o ((g5.trans (g57.trans g8)) b o hb e)
      · rw [upd_same, List.map_append, TL.join_eq]
        rfl
      · rcases List.mem_append.mp hz with h | h
        · exact hzs z h
        · rw [List.mem_singleton.mp h]
          exact jok
  · obtain ⟨g5, hd5, zs, x0, y0, z0, hD5, hzl, hzs, rfl⟩ := p5
    walk_at "rd"
    refine ⟨show 0 < 1 + u by omega, show 1 + u < 1000 by omega, sc, ns, hd5, fun b H6 (hb : b < 1 + u) g6 hd6 => ?_⟩
    have hD6 := g6 _ _ hDr hD5
    walk_at "rd"
    refine ⟨D, _, rfl, .inl ⟨SqL.of hD6, fun t ht => ?_⟩⟩
    walk_at "rd"
    refine ⟨by simp [sizeLine], fun p hp => ?_⟩
    have s7 := same_new ht (HO.tup (zs.map V.str))
    have s8 := same_new hp (HO.tup [V.int (b : Nat), V.ref t])
    exact q p b (u - b) zs _ ((g5.trans g6).trans ((SameR.of s7).trans (SameR.of s8))) ((hd6.new ht _).new hp _) ⟨⟨t, upd_same, s8 _ _ upd_same⟩, by omega, by omega⟩ hzs (by omega)
end
end Kl

/-! ## KlLetters -/
namespace Kl
open PySem PySem.Spec PyProof.Rows L2
theorem lets_cps (l : List Nat) : (lets l).cps.toList = l.map (97 + ·) := by simp [lets]
theorem sel_mem {told : List (Nat × Nat)} {p : Nat × Nat → Bool} {n i : Nat} : i ∈ sel told p n ↔ i < n ∧ p (told.getD i (0, 0)) = true := by
  unfold sel
  rw [List.mem_filter, List.mem_range]
theorem sel_asc (told : List (Nat × Nat)) (p : Nat × Nat → Bool) (n : Nat) : (sel told p n).Pairwise (· < ·) := List.pairwise_lt_range.sublist List.filter_sublist
theorem sel_ok (told : List (Nat × Nat)) (p : Nat × Nat → Bool) (h : told.length ≤ 12) : SetOk (lets (sel told p told.length)) := by
  refine ⟨fun c hc => ?_, ?_, ?_⟩
  · rw [lets_cps] at hc
    obtain ⟨i, hi, rfl⟩ := List.mem_map.mp hc
    have := (sel_mem.mp hi).1
    omega
  · rw [lets_cps]
    exact List.pairwise_map.mpr ((sel_asc told p _).imp fun {a b} h => by omega)
  · rw [lets_len]
    have := sel_le told p told.length
    omega
theorem hb_const {own others : Nat → Option Nat} {here v : Nat} : ∀ (cs : List Nat) (acc : Nat), (∀ c ∈ cs, here < (own c).getD (here + 1) ∧ others c = some v) → acc ≤ v → hb own others here cs acc = some (if cs = [] then acc else v)
  | [], acc, _, _ => rfl
  | c :: cs, acc, h, ha => by
    obtain ⟨h1, h2⟩ := h c List.mem_cons_self
    unfold hb
    rw [if_pos h1, h2, if_neg (by simp)]
    have ih := hb_const cs (max acc v) (fun d hd => h d (List.mem_cons_of_mem _ hd)) (by omega)
    show hb own others here cs (max acc v) = some v
    rw [ih]
    split
    · congr 1
      omega
    · rfl
section
variable {lefts rights : List Nat} {told : List (Nat × Nat)}
theorem things_at {t : Nat} (h : t < 2 * (lefts.length + rights.length) + 1) : (thingsOf lefts rights told)[t]? = some (lets (thingSel lefts rights told t)) := by
  unfold thingsOf
  rw [List.getElem?_map, List.getElem?_range h]
  rfl
theorem cds_things {t : Nat} (h : t < 2 * (lefts.length + rights.length) + 1) : cds (thingsOf lefts rights told) t = (thingSel lefts rights told t).map (97 + ·) := by
  rw [cds_at (things_at h), lets_cps]
theorem lets_mem {l : List Nat} {i : Nat} : 97 + i ∈ l.map (97 + ·) ↔ i ∈ l := by
  rw [List.mem_map]
  constructor
  · rintro ⟨j, hj, e⟩
    have : j = i := by omega
    rw [← this]
    exact hj
  · exact fun h => ⟨i, h, rfl⟩
theorem lroom {x i : Nat} {c : Nat × Nat} (hx : x ≤ lefts.length) (hc : told[i]? = some c) : 97 + i ∈ lrm (thingsOf lefts rights told) lefts.length x ↔ c.1 = x ∧ x ≠ 0 := by
  have hi := (List.getElem?_eq_some_iff.mp hc).1
  have hg : told.getD i (0, 0) = c := by rw [List.getD_eq_getElem?_getD, hc]; rfl
  rw [lrm, cds_things (by omega), lets_mem]
  unfold thingSel
  rw [if_pos (by omega), show 2 * (lefts.length - x) / 2 = lefts.length - x by omega, sel_mem, hg]
  unfold roomP
  simp only [Bool.or_eq_true, Bool.and_eq_true, decide_eq_true_eq]
  omega
theorem rroom {y i : Nat} {c : Nat × Nat} (hy : y ≤ rights.length) (hc : told[i]? = some c) : 97 + i ∈ rrm (thingsOf lefts rights told) lefts.length y ↔ c.2 = y ∧ y ≠ 0 := by
  have hi := (List.getElem?_eq_some_iff.mp hc).1
  have hg : told.getD i (0, 0) = c := by rw [List.getD_eq_getElem?_getD, hc]; rfl
  rw [rrm, cds_things (by omega), lets_mem]
  unfold thingSel
  rw [if_pos (by omega), show 2 * (lefts.length + y) / 2 = lefts.length + y by omega, sel_mem, hg]
  unfold roomP
  simp only [Bool.or_eq_true, Bool.and_eq_true, decide_eq_true_eq]
  omega
theorem first_of {rm : Nat → List Nat} {n v : Nat} {c : Nat} (h : ∀ x, x < n → (c ∈ rm x ↔ v = x ∧ x ≠ 0)) (hv : v < n) : firstIn rm n c = if v = 0 then none else some v := by
  unfold firstIn
  by_cases h0 : v = 0
  · rw [if_pos h0, List.find?_eq_none]
    intro x hx
    rw [decide_eq_true_eq, h x (List.mem_range.mp hx)]
    omega
  · rw [if_neg h0]
    rw [List.find?_range_eq_some]
    refine ⟨decide_eq_true ((h v hv).mpr ⟨rfl, h0⟩), List.mem_range.mpr hv, fun j hj => ?_⟩
    rw [decide_eq_false (fun z => ?_)]
    · rfl
    · have := ((h j (by omega)).mp z).1
      omega
variable (ok : ToldOk lefts rights told) (hl : ∀ v ∈ lefts, v ≤ rights.length) (hr : ∀ v ∈ rights, v ≤ lefts.length)
include ok hl hr
theorem told_le {i : Nat} {c : Nat × Nat} (hc : told[i]? = some c) : c.1 ≤ lefts.length ∧ c.2 ≤ rights.length := by
  have hm := List.mem_of_getElem? hc
  refine ⟨?_, ?_⟩
  · by_cases h0 : c.1 = 0
    · omega
    · exact hr _ (ok.fst c hm h0)
  · by_cases h0 : c.2 = 0
    · omega
    · exact hl _ (ok.snd c hm h0)
theorem first_l {i : Nat} {c : Nat × Nat} (hc : told[i]? = some c) : firstIn (lrm (thingsOf lefts rights told) lefts.length) (lefts.length + 1) (97 + i) = if c.1 = 0 then none else some c.1 :=
  first_of (fun x hx => lroom (by omega) hc) (by have := (told_le ok hl hr hc).1; omega)
theorem first_r {i : Nat} {c : Nat × Nat} (hc : told[i]? = some c) : firstIn (rrm (thingsOf lefts rights told) lefts.length) (rights.length + 1) (97 + i) = if c.2 = 0 then none else some c.2 :=
  first_of (fun y hy => rroom (by omega) hc) (by have := (told_le ok hl hr hc).2; omega)
theorem tleft_told : tleft (thingsOf lefts rights told) lefts.length rights.length = lefts.map some := by
  apply List.ext_getElem?
  intro x
  by_cases hx : x < lefts.length
  · obtain ⟨v, hv⟩ := get_ex hx
    unfold tleft
    rw [List.getElem?_map, List.getElem?_range hx, List.getElem?_map, hv]
    show some (hb _ _ x (ldr (thingsOf lefts rights told) lefts.length x) 0) = some (some v)
    congr 1
    have e : ldr (thingsOf lefts rights told) lefts.length x = (sel told (doorP lefts rights (lefts.length - 1 - x)) told.length).map (97 + ·) := by
      rw [ldr, cds_things (by omega)]
      unfold thingSel
      rw [if_neg (by omega), show (2 * (lefts.length - x) - 1) / 2 = lefts.length - 1 - x by omega]
    have hdoor : ∀ c : Nat × Nat, doorP lefts rights (lefts.length - 1 - x) c = true ↔ c.2 ≠ 0 ∧ v = c.2 := by
      intro c
      unfold doorP
      rw [show lefts.length - 1 - (lefts.length - 1 - x) = x by omega, hv]
      simp only [Bool.or_eq_true, Bool.and_eq_true, decide_eq_true_eq, Option.some.injEq]
      omega
    rw [e]
    by_cases h0 : v = 0
    · have e2 : sel told (doorP lefts rights (lefts.length - 1 - x)) told.length = [] := by
        unfold sel
        rw [List.filter_eq_nil_iff]
        intro i _ hd
        have := (hdoor _).mp hd
        omega
      rw [e2, h0]
      rfl
    · obtain ⟨f, hf⟩ := ok.left v (List.mem_of_getElem? hv) h0
      obtain ⟨i, hi⟩ := List.mem_iff_getElem?.mp hf
      have hm : i ∈ sel told (doorP lefts rights (lefts.length - 1 - x)) told.length := by
        refine sel_mem.mpr ⟨(List.getElem?_eq_some_iff.mp hi).1, ?_⟩
        rw [List.getD_eq_getElem?_getD, hi]
        exact (hdoor _).mpr ⟨h0, rfl⟩
      rw [hb_const (v := v) _ 0 (fun c hc => ?_) (Nat.zero_le _), if_neg (fun z => by rw [List.map_eq_nil_iff] at z; rw [z] at hm; cases hm)]
      obtain ⟨k, hk, rfl⟩ := List.mem_map.mp hc
      obtain ⟨k1, k2⟩ := sel_mem.mp hk
      obtain ⟨d, hd⟩ := get_ex k1
      rw [List.getD_eq_getElem?_getD, hd] at k2
      obtain ⟨k3, k4⟩ := (hdoor d).mp k2
      rw [first_l ok hl hr hd, first_r ok hl hr hd, if_neg k3]
      refine ⟨?_, by rw [k4]⟩
      by_cases f0 : d.1 = 0
      · rw [if_pos f0]
        show x < x + 1
        omega
      · rw [if_neg f0]
        show x < d.1
        exact (ok.place d (List.mem_of_getElem? hd) f0 k3).1 x (by rw [hv, k4])
  · rw [List.getElem?_eq_none (by rw [tleft_len]; omega), List.getElem?_eq_none (by simp; omega)]
theorem tright_told : tright (thingsOf lefts rights told) lefts.length rights.length = rights.map some := by
  apply List.ext_getElem?
  intro y
  by_cases hy : y < rights.length
  · obtain ⟨v, hv⟩ := get_ex hy
    unfold tright
    rw [List.getElem?_map, List.getElem?_range hy, List.getElem?_map, hv]
    show some (hb _ _ y (rdr (thingsOf lefts rights told) lefts.length y) 0) = some (some v)
    congr 1
    have e : rdr (thingsOf lefts rights told) lefts.length y = (sel told (doorP lefts rights (lefts.length + y)) told.length).map (97 + ·) := by
      rw [rdr, cds_things (by omega)]
      unfold thingSel
      rw [if_neg (by omega), show (2 * (lefts.length + y) + 1) / 2 = lefts.length + y by omega]
    have hdoor : ∀ c : Nat × Nat, doorP lefts rights (lefts.length + y) c = true ↔ c.1 ≠ 0 ∧ v = c.1 := by
      intro c
      unfold doorP
      rw [show lefts.length + y - lefts.length = y by omega, hv]
      simp only [Bool.or_eq_true, Bool.and_eq_true, decide_eq_true_eq, Option.some.injEq]
      omega
    rw [e]
    by_cases h0 : v = 0
    · have e2 : sel told (doorP lefts rights (lefts.length + y)) told.length = [] := by
        unfold sel
        rw [List.filter_eq_nil_iff]
        intro i _ hd
        have := (hdoor _).mp hd
        omega
      rw [e2, h0]
      rfl
    · obtain ⟨s, hs⟩ := ok.right v (List.mem_of_getElem? hv) h0
      obtain ⟨i, hi⟩ := List.mem_iff_getElem?.mp hs
      have hm : i ∈ sel told (doorP lefts rights (lefts.length + y)) told.length := by
        refine sel_mem.mpr ⟨(List.getElem?_eq_some_iff.mp hi).1, ?_⟩
        rw [List.getD_eq_getElem?_getD, hi]
        exact (hdoor _).mpr ⟨h0, rfl⟩
      rw [hb_const (v := v) _ 0 (fun c hc => ?_) (Nat.zero_le _), if_neg (fun z => by rw [List.map_eq_nil_iff] at z; rw [z] at hm; cases hm)]
      obtain ⟨k, hk, rfl⟩ := List.mem_map.mp hc
      obtain ⟨k1, k2⟩ := sel_mem.mp hk
      obtain ⟨d, hd⟩ := get_ex k1
      rw [List.getD_eq_getElem?_getD, hd] at k2
      obtain ⟨k3, k4⟩ := (hdoor d).mp k2
      rw [first_l ok hl hr hd, first_r ok hl hr hd, if_neg k3]
      refine ⟨?_, by rw [k4]⟩
      by_cases f0 : d.2 = 0
      · rw [if_pos f0]
        show y < y + 1
        omega
      · rw [if_neg f0]
        show y < d.2
        exact (ok.place d (List.mem_of_getElem? hd) k3 f0).2 y (by rw [hv, k4])
  · rw [List.getElem?_eq_none (by rw [tright_len]; omega), List.getElem?_eq_none (by simp; omega)]
omit ok hl hr in
theorem things_ok (h12 : told.length ≤ 12) : ∀ z ∈ thingsOf lefts rights told, SetOk z := by
  intro z hz
  obtain ⟨t, _, rfl⟩ := List.mem_map.mp hz
  unfold thingSel
  split
  · exact sel_ok told _ h12
  · exact sel_ok told _ h12
theorem letters_len : (distL (allL (thingsOf lefts rights told))).length = told.length := by
  have hmem : ∀ c, c ∈ distL (allL (thingsOf lefts rights told)) ↔ c ∈ (List.range told.length).map (97 + ·) := by
    intro c
    rw [distL_mem]
    constructor
    · intro h
      obtain ⟨z, hz, hc⟩ := List.mem_flatMap.mp h
      obtain ⟨t, _, rfl⟩ := List.mem_map.mp hz
      rw [lets_cps] at hc
      obtain ⟨i, hi, rfl⟩ := List.mem_map.mp hc
      refine List.mem_map.mpr ⟨i, List.mem_range.mpr ?_, rfl⟩
      unfold thingSel at hi
      split at hi
      · exact (sel_mem.mp hi).1
      · exact (sel_mem.mp hi).1
    · intro h
      obtain ⟨i, hi, rfl⟩ := List.mem_map.mp h
      have hi := List.mem_range.mp hi
      obtain ⟨c, hc⟩ := get_ex hi
      obtain ⟨l1, l2⟩ := told_le ok hl hr hc
      have inThing : ∀ t, t < 2 * (lefts.length + rights.length) + 1 → 97 + i ∈ cds (thingsOf lefts rights told) t → 97 + i ∈ allL (thingsOf lefts rights told) := fun t ht hm => by
        rw [cds_at (things_at ht)] at hm
        exact List.mem_flatMap.mpr ⟨_, List.mem_of_getElem? (things_at ht), hm⟩
      rcases ok.nz c (List.mem_of_getElem? hc) with h0 | h0
      · exact inThing (2 * (lefts.length - c.1)) (by omega) ((lroom l1 hc).mpr ⟨rfl, h0⟩)
      · exact inThing (2 * (lefts.length + c.2)) (by omega) ((rroom l2 hc).mpr ⟨rfl, h0⟩)
  have n2 : ((List.range told.length).map (97 + ·)).Nodup := List.pairwise_map.mpr (List.nodup_range.imp fun {a b} h => by omega)
  refine Nat.le_antisymm ?_ ?_
  · have := (distL_nodup (allL (thingsOf lefts rights told))).length_le_of_subset fun c hc => (hmem c).mp hc
    simpa using this
  · have := n2.length_le_of_subset fun c hc => (hmem c).mpr hc
    simpa using this
end
/-- the different signs of the joined things -/
theorem dist_ones : ∀ (cs acc : List Nat), (cs.map one).foldl addS (acc.map one) = (cs.foldl addL acc).map one
  | [], acc => rfl
  | c :: cs, acc => by
    have e : addS (acc.map one) (one c) = (addL acc c).map one := by
      have hm : one c ∈ acc.map one ↔ c ∈ acc := by
        rw [List.mem_map]
        constructor
        · rintro ⟨d, hd, e⟩
          have e1 : #[d] = #[c] := congrArg Str.cps e
          have e2 : d = c := by simpa using e1
          rw [← e2]
          exact hd
        · exact fun h => ⟨c, h, rfl⟩
      unfold addS addL
      by_cases h : c ∈ acc
      · rw [if_pos h, if_pos (hm.mpr h)]
      · rw [if_neg h, if_neg (fun z => h (hm.mp z)), List.map_append]
        rfl
    rw [List.map_cons, List.foldl_cons, List.foldl_cons, e]
    exact dist_ones cs (addL acc c)
theorem dist_join (things : List Str) : (distS (signs (Str.join (Str.ofString "") things))).length = (distL (allL things)).length := by
  have e : signs (Str.join (Str.ofString "") things) = (allL things).map one := by
    unfold signs allL
    rw [join_cps]
  unfold distS distL
  rw [e]
  have := dist_ones (allL things) []
  rw [List.map_nil] at this
  rw [this, List.length_map]
theorem join_len (things : List Str) : (Str.join (Str.ofString "") things).length = (allL things).length := by
  show (Str.join (Str.ofString "") things).cps.size = _
  rw [← Array.length_toList, join_cps]
  rfl
end Kl

/-! ## KlSmall -/
namespace Kl
/-- the numbers of kinds of all rows that leave a region -/
def bestOf (g : Reg) : List Nat := (listsOf (g.length - 1) (rightOf g)).flatMap fun l => (listsOf (rightOf g) (g.length - 1)).filterMap fun r =>
  if regionFrom (l.map some) (r.map some) = g then some (numberFor (l.map some) (r.map some)) else none
def numOf (g : Reg) : Nat := numberFor ((leftsOf g).map some) ((rightsOf g).map some)
def smallB (g : Reg) : Bool := (bestOf g).contains (numOf g) && (bestOf g).all fun v => decide (numOf g ≤ v)
def regB (g : Reg) : Bool := decide (lo g 0 = 0) && ((List.range g.length).all fun i => decide (lo g i ≤ hi g i) && decide (hi g i ≤ 2)) &&
  (List.range (g.length - 1)).all fun i => decide (lo g i ≤ lo g (i + 1)) && decide (lo g (i + 1) ≤ hi g i) && decide (hi g i ≤ hi g (i + 1))
def nine : List (Nat × Nat) := (List.range 3).flatMap fun a => (List.range 3).map fun b => (a, b)
def cand : Nat → List Reg
  | 0 => [[]]
  | n + 1 => (cand n).flatMap fun g => nine.map fun c => c :: g
theorem small1 : ((cand 1).all fun g => !regB g || smallB g) = true := by decide +kernel
theorem small2 : ((cand 2).all fun g => !regB g || smallB g) = true := by decide +kernel
theorem small3 : ((cand 3).all fun g => !regB g || smallB g) = true := by decide +kernel
theorem cand_mem : ∀ (g : Reg), (∀ c ∈ g, c.1 ≤ 2 ∧ c.2 ≤ 2) → g ∈ cand g.length
  | [], _ => List.mem_singleton.mpr rfl
  | c :: g, h => by
    have ih := cand_mem g fun d hd => h d (List.mem_cons_of_mem _ hd)
    obtain ⟨h1, h2⟩ := h c List.mem_cons_self
    refine List.mem_flatMap.mpr ⟨g, ih, List.mem_map.mpr ⟨c, ?_, rfl⟩⟩
    exact List.mem_flatMap.mpr ⟨c.1, List.mem_range.mpr (by omega), List.mem_map.mpr ⟨c.2, List.mem_range.mpr (by omega), rfl⟩⟩
theorem small_all {g : Reg} (ok : RegOk g 3 2) : numOf g ∈ bestOf g ∧ ∀ v ∈ bestOf g, numOf g ≤ v := by
  have hm : g ∈ cand g.length := cand_mem g fun c hc => by
    obtain ⟨i, hi⟩ := List.mem_iff_getElem?.mp hc
    have hl := (List.getElem?_eq_some_iff.mp hi).1
    have e := getD_at hl
    rw [hi] at e
    obtain rfl := Option.some.inj e
    have := ok.col i hl
    exact ⟨by show lo g i ≤ 2; omega, this.2⟩
  have hb : regB g = true := by
    unfold regB
    rw [Bool.and_eq_true, Bool.and_eq_true, List.all_eq_true, List.all_eq_true]
    refine ⟨⟨decide_eq_true ok.first, fun i hi => ?_⟩, fun i hi => ?_⟩
    · have := ok.col i (List.mem_range.mp hi)
      rw [Bool.and_eq_true]
      exact ⟨decide_eq_true this.1, decide_eq_true this.2⟩
    · have := ok.step i (by have := List.mem_range.mp hi; omega)
      rw [Bool.and_eq_true, Bool.and_eq_true]
      exact ⟨⟨decide_eq_true this.1, decide_eq_true this.2.1⟩, decide_eq_true this.2.2⟩
  have h3 := ok.wide
  have h1 := ok.pos
  have hs : smallB g = true := by
    have use : ∀ n, ((cand n).all fun g => !regB g || smallB g) = true → g.length = n → smallB g = true := fun n h e => by
      rw [e] at hm
      have := List.all_eq_true.mp h g hm
      rw [hb] at this
      exact this
    have hn : g.length = 1 ∨ g.length = 2 ∨ g.length = 3 := by omega
    rcases hn with e | e | e
    · exact use 1 small1 e
    · exact use 2 small2 e
    · exact use 3 small3 e
  unfold smallB at hs
  rw [Bool.and_eq_true, List.all_eq_true] at hs
  exact ⟨by simpa using hs.1, fun v hv => of_decide_eq_true (hs.2 v hv)⟩
end Kl

/-! ## D22a -/
namespace Kl
open PySem PySem.Spec PyProof.Rows L2
local macro_rules | `(tactic| walk_at "rd") => `(tactic| repeat (first | refine ⟨_, rfl, ?_⟩ | refine ⟨_, _, rfl, rfl, ?_⟩ | refine ⟨_, _, rfl, ?_⟩ | refine ⟨rfl, ?_⟩ | refine ⟨Or.inl ⟨by decide, by decide⟩, ?_⟩ | refine ⟨Or.inr ⟨by decide, by decide⟩, ?_⟩ | refine ⟨⟨by decide, by decide⟩, ?_⟩ | refine ⟨by decide, ?_⟩ | refine ⟨show (0 : Int) < _ from by decide, ?_⟩))
theorem SetOk.le12 {z : Str} (h : SetOk z) : z.length ≤ 12 := by
  have : z.cps.toList.length ≤ 12 := letters_le (h.up.imp fun {a b} h => Nat.ne_of_lt h) h.abc
  simpa [Str.length] using this
theorem sum_le : ∀ {things : List Str}, (∀ z ∈ things, SetOk z) → (things.map (·.length)).sum ≤ 12 * things.length
  | [], _ => Nat.le_refl _
  | z :: zs, h => by
    have ih := sum_le fun y hy => h y (List.mem_cons_of_mem _ hy)
    have h1 := (h z List.mem_cons_self).le12
    rw [List.map_cons, List.sum_cons, List.length_cons]
    omega
theorem all_le : ∀ {things : List Str}, (∀ z ∈ things, SetOk z) → (allL things).length ≤ 12 * things.length
  | [], _ => Nat.le_refl _
  | z :: zs, h => by
    have ih := all_le fun y hy => h y (List.mem_cons_of_mem _ hy)
    have h1 := (h z List.mem_cons_self).le12
    show ((z.cps.toList) ++ allL zs).length ≤ _
    rw [List.length_append, List.length_cons, Array.length_toList]
    have h2 : z.length = z.cps.size := rfl
    omega
/-- the joined things of a lane: how many signs its set has -/
theorem join_fits {things : List Str} (h : ∀ z ∈ things, SetOk z) (hl : things.length ≤ 120) : (things.map (·.length)).sum + things.length * (Str.ofString "").length ≤ 16777216 ∧ (Str.join (Str.ofString "") things).length + 1 < scanBound := by
  have h1 := sum_le h
  have h2 := all_le h
  have e0 : (Str.ofString "").length = 0 := by decide +kernel
  rw [e0, join_len]
  have h3 : 2000 < scanBound := by decide
  omega
section
variable {P : Program} {w : World} {K : PySem.W.Frag} {mg : Str → Option Value} {base : Heap} {f : Addr} {fd : FuncData}
abbrev n_law : List Str := ["_law_script", "_law_row", "_law_told", "_law_best", "_law_lefts", "_law_rights", "_law_great", "_law_lane_here", "_law_other"]
theorem sc_law : FnScope n_law ["_law_script"] (defScope s_law) := ⟨rfl, rfl, rfl, by decide +kernel, rfl, by decide +kernel, by decide +kernel⟩
theorem law_tail8 (T : Bt mg) (G_law_lane : Has P w K mg base 3 "_law_lane" ["_law_row", "_law_most"] (spLawLane K)) (G_thresholds : Has P w K mg base 4 "thresholds" ["lane"] spThresholdsOf) (G_count_kinds : Has P w K mg base 4 "count_kinds" ["lane"] spCountKinds)
    (G_spare_kinds : Has P w K mg base 65 "spare_kinds" ["lane"] spSpareKinds) (G_least_kinds : Has P w K mg base 65 "least_kinds" ["lefts", "rights"] spLeastKinds)
    {cdv : Value} {A : Around} {outer : List Env} {s : Shared} {H : Hp} {E : XK} (hr : Room 66 (A.deeper (envOfC "law" (defScope s_law) s.heap.objs.size f cdv))) :
    ∃ t, PSs (cxOf CX0 P w K mg base n_law "law" (defScope s_law) f cdv A outer s H E).nox ((defBody s_law).drop 8) t ∧
      ∀ (D : Ends) (H1 : Hp) (row sc : Addr) (ns : List Int) (x0 x2 x3 x4 x5 x6 x7 x8 : Option V), DrawH K H1 row sc ns → (∀ H', D.rt (.bl true) H') → t D [x0, some (.ref row), x2, x3, x4, x5, x6, x7, x8] H1 := by
  refine ⟨_, (pss_cons (ps_set (i := 8) sc_law.nd rfl (Or.inl rfl) (pe_fn G_law_lane (hr.mono (by decide)) (pa_cons (pv 1) (pa_cons pe_int pa_nil))))
  (pss_cons (ps_asg (pe_fn G_thresholds (hr.mono (by decide)) (pa_cons (pv 8) pa_nil)) (pg_tup rfl (pgs_cons (pg_name (i := 4) sc_law.nd rfl (Or.inl rfl)) (pgs_cons (pg_name (i := 5) sc_law.nd rfl (Or.inl rfl)) pgs_nil))))
  (pss_one (ps_ret (pe_and (pe_cmpR op_eq (pe_fn G_count_kinds (hr.mono (by decide)) (pa_cons (pv 8) pa_nil)) (pe_lenSetS (by rfl) T.len (by rfl) T.set (pe_join pe_str (pe_ix ix_tup (pv 8) pe_int (fun _ _ => rfl)))) (nomark _)) (pe_one (pe_cmpR op_eq (pe_fn G_spare_kinds (hr.mono (by decide)) (pa_cons (pv 8) pa_nil)) (pe_op op_sub (pe_fn G_count_kinds (hr.mono (by decide)) (pa_cons (pv 8) pa_nil)) (pe_fn G_least_kinds (hr.mono (by decide)) (pa_cons (pv 4) (pa_cons (pv 5) pa_nil)))) (nomark _)))))))), ?_⟩
  intro D H1 row sc ns x0 x2 x3 x4 x5 x6 x7 x8 hd q
  walk_at "rd"
  refine ⟨sc, ns, hd, fun p b r things H2 g2 hd2 L sok hbr => ?_⟩
  obtain ⟨t, e1, e2⟩ := L.ex
  have hlen := L.len
  have fits := join_fits sok (by omega)
  walk_at "rd"
  refine ⟨p, b, r, things, rfl, L, sok, fun p2 l m H3 g3 hp2 hl hm => ?_⟩
  walk_at "rd"
  refine ⟨p2, _, rfl, SqT.of hp2, rfl, ?_⟩
  walk_at "rd"
  refine ⟨p, b, r, things, rfl, L.mono (Same.t g3), sok, fun H4 g4 => ?_⟩
  have g34 := g3.trans g4
  walk_at "rd"
  refine ⟨⟨_, rfl⟩, ?_⟩
  walk_at "rd"
  refine ⟨p, _, _, _, rfl, rfl, SqT.of (g34 _ _ e1), rfl, ?_⟩
  refine ⟨_, t, things, rfl, rfl, .inr (SqT.of (g34 _ _ e2)), fits.1, ?_⟩
  rw [TL.join_eq]
  refine ⟨_, rfl, fits.2, ?_⟩
  rw [dist_join]
  walk_at "rd"
  (refine iteT ?_ ?_; (· exact decide_eq_true rfl))
  walk_at "rd"
  refine ⟨p, b, r, things, rfl, L.mono (Same.t g34), sok, fun H5 g5 => ?_⟩
  walk_at "rd"
  refine ⟨p, b, r, things, rfl, L.mono (Same.t (g34.trans g5)), sok, fun H6 g6 => ?_⟩
  have g46 := (g4.trans g5).trans g6
  walk_at "rd"
  refine ⟨l, m, _, _, rfl, RowH.mono hl (Same.t g46), RowH.mono hm (Same.t g46), RowsOk.ths (by omega), fun H7 g7 => ?_⟩
  walk_at "rd"
  have e : decide (V.int (((distL (allL things)).length : Int) - (numberFor (tleft things b r) (tright things b r) : Int)) = V.int (((distL (allL things)).length : Int) - (numberFor (tleft things b r) (tright things b r) : Int))) = true := decide_eq_true rfl
  show D.rt (V.bl (decide (V.int (((distL (allL things)).length : Int) - (numberFor (tleft things b r) (tright things b r) : Int)) = V.int (((distL (allL things)).length : Int) - (numberFor (tleft things b r) (tright things b r) : Int))))) H7
  rw [e]
  exact q _
end
end Kl

/-! ## D22b -/
namespace Kl
open PySem PySem.Spec PyProof.Rows L2
local macro_rules | `(tactic| walk_at "rd") => `(tactic| repeat (first | refine ⟨_, rfl, ?_⟩ | refine ⟨_, _, rfl, rfl, ?_⟩ | refine ⟨_, _, rfl, ?_⟩ | refine ⟨rfl, ?_⟩ | refine ⟨Or.inl ⟨by decide, by decide⟩, ?_⟩ | refine ⟨Or.inr ⟨by decide, by decide⟩, ?_⟩ | refine ⟨⟨by decide, by decide⟩, ?_⟩ | refine ⟨by decide, ?_⟩ | refine ⟨show (0 : Int) < _ from by decide, ?_⟩))
section
variable {P : Program} {w : World} {K : PySem.W.Frag} {mg : Str → Option Value} {base : Heap} {f : Addr} {fd : FuncData}
theorem law_tail5 (T : Bt mg) (G_law_lane : Has P w K mg base 3 "_law_lane" ["_law_row", "_law_most"] (spLawLane K)) (G_thresholds : Has P w K mg base 4 "thresholds" ["lane"] spThresholdsOf) (G_count_kinds : Has P w K mg base 4 "count_kinds" ["lane"] spCountKinds)
    (G_spare_kinds : Has P w K mg base 65 "spare_kinds" ["lane"] spSpareKinds) (G_least_kinds : Has P w K mg base 65 "least_kinds" ["lefts", "rights"] spLeastKinds)
    (G_law_region : Has P w K mg base 2 "_law_region" ["_law_row", "_law_wide", "_law_high"] (spLawRegion K)) (G_lane_of : Has P w K mg base 65 "lane_of" ["region"] spLaneOf) (G_region : Has P w K mg base 5 "region" ["lane"] spRegionOf) (G_sides : Has P w K mg base 4 "sides" ["lane"] spSides)
    (G_region_kinds : Has P w K mg base 66 "region_kinds" ["region"] spRegionKinds)
    {cdv : Value} {A : Around} {outer : List Env} {s : Shared} {H : Hp} {E : XK} (hr : Room 66 (A.deeper (envOfC "law" (defScope s_law) s.heap.objs.size f cdv))) :
    ∃ t, PSs (cxOf CX0 P w K mg base n_law "law" (defScope s_law) f cdv A outer s H E).nox ((defBody s_law).drop 5) t ∧
      ∀ (D : Ends) (H1 : Hp) (row sc : Addr) (ns : List Int) (x0 x2 x3 x4 x5 x6 x7 x8 : Option V), DrawH K H1 row sc ns → (∀ H', D.rt (.bl true) H') → t D [x0, some (.ref row), x2, x3, x4, x5, x6, x7, x8] H1 := by
  obtain ⟨t8, PT8, tail⟩ := law_tail8 (P := P) (w := w) (K := K) (base := base) (f := f) (cdv := cdv) (outer := outer) (H := H) (E := E) T G_law_lane G_thresholds G_count_kinds G_spare_kinds G_least_kinds hr
  refine ⟨_, (pss_cons (ps_set (i := 6) sc_law.nd rfl (Or.inl rfl) (pe_fn G_law_region (hr.mono (by decide)) (pa_cons (pv 1) (pa_cons pe_int (pa_cons pe_int pa_nil)))))
  (pss_cons (ps_set (i := 7) sc_law.nd rfl (Or.inl rfl) (pe_fn G_lane_of (hr.mono (by decide)) (pa_cons (pv 6) pa_nil)))
  (pss_cons (ps_if (PW.pt (pw_or (pt_cmpR (op_neD hr.units) (pe_fn G_region (hr.mono (by decide)) (pa_cons (pv 7) pa_nil)) (pv 6) (nomark _)) (pw_or (pt_cmpR (op_neD hr.units) (pe_fn G_sides (hr.mono (by decide)) (pa_cons (pv 7) pa_nil)) (pe_tup (pa_cons (pe_op op_sub (pe_callB call_len_seq (by rfl) T.len (by decide +kernel) (pa_cons (pv 6) pa_nil)) pe_int) (pa_cons (pe_ix ix_tup (pe_ix ix_tup (pv 6) (pe_un un_neg pe_int) (fun _ _ => rfl)) pe_int (fun _ _ => rfl)) pa_nil))) (nomark _)) (pw_or1 (pt_cmpR op_ne (pe_lenSetS (by rfl) T.len (by rfl) T.set (pe_join pe_str (pe_ix ix_tup (pv 7) pe_int (fun _ _ => rfl)))) (pe_fn G_region_kinds (hr.mono (by decide)) (pa_cons (pv 6) pa_nil)) (nomark _)))))) (pss_one (ps_ret pe_bl)) pss_nil)
  PT8))), ?_⟩
  intro D H1 row sc ns x0 x2 x3 x4 x5 x6 x7 x8 hd q
  walk_at "rd"
  refine ⟨row, 6, 6, rfl, by decide, by decide, sc, ns, hd, fun a g H2 g2 hd2 hg ok => ?_⟩
  obtain ⟨xs, hxs, prg⟩ := id hg
  have lx := paired_len prg
  have lp := ok.pos
  have lw := ok.wide
  have hr6 : rightOf g ≤ 6 := (ok.col (g.length - 1) (by omega)).2
  walk_at "rd"
  refine ⟨a, g, rfl, hg, ok, fun p H3 told g3 tok tlen t12 L => ?_⟩
  obtain ⟨t, e1, e2⟩ := L.ex
  have sok := things_ok (lefts := leftsOf g) (rights := rightsOf g) t12
  have hll := leftsOf_le ok
  have hrl := rightsOf_le ok
  have eL := tleft_told tok hll hrl
  have eR := tright_told tok hll hrl
  have eN := letters_len tok hll hrl
  have back := region_back ok
  have ll := lefts_len g
  have lr := rights_len g
  have hlen := L.len
  have fits := join_fits sok (by omega)
  walk_at "rd"
  refine ⟨p, _, _, _, rfl, L, sok, fun p4 H4 g4 h4 => ?_⟩
  rw [eL, eR, back] at h4
  obtain ⟨ys, hys, pry⟩ := h4
  have g34 := g3.trans g4
  walk_at "rd"
  refine ⟨_, _, .tup (SqT.of hys) (cols_dp pry), .tup (SqT.of (g34 _ _ hxs)) (cols_dp (paired_mono prg fun _ _ => ColH.mono (Same.t g34))), tup_shaped g, tup_shaped g, ?_⟩
  rw [tup_eqv]
  walk_at "rd"
  (refine iteF ?_ ?_; (· rw [decide_eq_true rfl]; rfl))
  walk_at "rd"
  refine ⟨p, _, _, _, rfl, L.mono (Same.t g4), sok, fun p5 H5 g5 h5 => ?_⟩
  have g25 := g34.trans g5
  walk_at "rd"
  refine ⟨a, _, rfl, .inr (SqT.of (g25 _ _ hxs)), ?_⟩
  rw [lx]
  walk_at "rd"
  obtain ⟨v9, hv9, c9, rfl, hc9⟩ := paired_at prg (getD_at (g := g) (i := g.length - 1) (by omega))
  refine ⟨a, _, _, _, rfl, rfl, SqT.of (g25 _ _ hxs), at_last (j := g.length - 1) (by omega) hv9, ?_⟩
  walk_at "rd"
  refine ⟨c9, _, _, _, rfl, rfl, SqT.of (g25 _ _ hc9), rfl, ?_⟩
  walk_at "rd"
  refine ⟨by simp [sizeLine], fun p6 hp6 => ?_⟩
  have s6 := same_new hp6 (HO.tup [V.int ((g.length : Int) - 1), V.int ((rightOf g : Nat) : Int)])
  have g26 := g25.trans s6
  refine ⟨_, _, col_dp (c := ((leftsOf g).length, (rightsOf g).length)) (s6 _ _ h5), col_dp (c := (g.length - 1, rightOf g)) ?_, col_shaped _, col_shaped _, ?_⟩
  · rw [upd_same]
    show some (HO.tup [V.int ((g.length : Int) - 1), V.int ((rightOf g : Nat) : Int)]) = _
    rw [show ((g.length : Int) - 1) = ((g.length - 1 : Nat) : Int) by omega]
  rw [col_eqv, ll, lr]
  walk_at "rd"
  (refine iteF ?_ ?_; (· rw [decide_eq_true rfl]; rfl))
  walk_at "rd"
  refine ⟨⟨_, rfl⟩, ?_⟩
  walk_at "rd"
  have g36 := (g4.trans g5).trans s6
  refine ⟨p, _, _, _, rfl, rfl, SqT.of (g36 _ _ e1), rfl, ?_⟩
  refine ⟨_, t, thingsOf (leftsOf g) (rightsOf g) told, rfl, rfl, .inr (SqT.of (g36 _ _ e2)), fits.1, ?_⟩
  rw [TL.join_eq]
  refine ⟨_, rfl, fits.2, ?_⟩
  rw [dist_join, eN]
  walk_at "rd"
  refine ⟨a, g, rfl, RegH.mono hg (Same.t g26), ok.le (by decide) (by decide), fun H7 g7 => ?_⟩
  walk_at "rd"
  (refine iteF ?_ ?_; (· exact vneF (by rw [tlen])))
  exact tail D H7 row sc ns x0 x2 x3 x4 x5 _ _ x8 (hd2.mono (g26.trans g7)) q
end
end Kl

/-! ## D22 -/
namespace Kl
open PySem PySem.Spec PyProof.Rows L2
local macro_rules | `(tactic| walk_at "rd") => `(tactic| repeat (first | refine ⟨_, rfl, ?_⟩ | refine ⟨_, _, rfl, rfl, ?_⟩ | refine ⟨_, _, rfl, ?_⟩ | refine ⟨rfl, ?_⟩ | refine ⟨Or.inl ⟨by decide, by decide⟩, ?_⟩ | refine ⟨Or.inr ⟨by decide, by decide⟩, ?_⟩ | refine ⟨⟨by decide, by decide⟩, ?_⟩ | refine ⟨by decide, ?_⟩ | refine ⟨show (0 : Int) < _ from by decide, ?_⟩))
theorem DrawH.sameR {K : PySem.W.Frag} {H H' : Hp} {row sc p : Addr} {ns : List Int} (h : DrawH K H row sc ns) (hf : Far K sc ns p) (hne : p ≠ row) (g : SameR p H H') : DrawH K H' row sc ns := by
  obtain ⟨i, a, b, h1, h2, h3⟩ := h
  refine ⟨i, a, b, h1, ?_, g _ _ (Ne.symm hne) h3⟩
  rcases hf with q | q
  · exact sqL_same h2 fun u hu => g _ _ q hu
  · exact .inr q
theorem rows_ok {g : Reg} (ok : RegOk g 3 2) {l r : List Nat} (hl : l ∈ listsOf (g.length - 1) (rightOf g)) (hr : r ∈ listsOf (rightOf g) (g.length - 1)) : RowsOk (l.map some) (r.map some) := by
  obtain ⟨l1, l2⟩ := lists_mem hl
  obtain ⟨r1, r2⟩ := lists_mem hr
  have p := ok.pos
  have w := ok.wide
  have t : rightOf g ≤ 2 := (ok.col (g.length - 1) (by omega)).2
  have un : ∀ {row : List Nat} {v : Nat}, some v ∈ row.map some → v ∈ row := fun h => by
    obtain ⟨u, hu, e⟩ := List.mem_map.mp h
    rw [← Option.some.inj e]
    exact hu
  refine ⟨fun v hv => ?_, fun v hv => ?_, ?_⟩
  · have := l2 v (un hv)
    rw [List.length_map, r1]
    exact this
  · have := r2 v (un hv)
    rw [List.length_map, l1]
    exact this
  · rw [List.length_map, List.length_map, l1, r1]
    omega
/-- what a pair of rows adds -/
def oneOf (g : Reg) (l r : List Nat) : Option Nat := if regionFrom (l.map some) (r.map some) = g then some (numberFor (l.map some) (r.map some)) else none
theorem best_is (g : Reg) : bestOf g = (listsOf (g.length - 1) (rightOf g)).flatMap fun l => (listsOf (rightOf g) (g.length - 1)).filterMap (oneOf g l) := rfl
theorem flat_take2 {α β : Type} {rows : List α} {j : Nat} {r : α} (h : rows[j]? = some r) (f : α → List β) : (rows.take (j + 1)).flatMap f = (rows.take j).flatMap f ++ f r := by
  rw [List.take_add_one, h, List.flatMap_append]
  simp
theorem fm_take {α β : Type} {rows : List α} {j : Nat} {r : α} (h : rows[j]? = some r) (f : α → Option β) : (rows.take (j + 1)).filterMap f = (rows.take j).filterMap f ++ (f r).toList := by
  rw [List.take_add_one, h, List.filterMap_append]
  congr 1
theorem lists_pos : ∀ n m, 0 < (listsOf n m).length
  | 0, _ => by simp [listsOf]
  | n + 1, m => by
    have h := lists_pos n m
    rw [listsOf]
    cases e : listsOf n m with
    | nil => rw [e] at h; simp at h
    | cons x xs => simp [List.range_succ]; omega
abbrev intL (l : List Nat) : List V := l.map fun v => V.int ((v : Nat) : Int)
theorem flat_len_le {α β : Type} (f : α → List β) (m : Nat) (h : ∀ a, (f a).length ≤ m) : ∀ l : List α, (l.flatMap f).length ≤ l.length * m
  | [] => by simp
  | a :: l => by
    have := flat_len_le f m h l
    have := h a
    rw [List.flatMap_cons, List.length_append, List.length_cons, Nat.succ_mul]
    omega
section
variable {P : Program} {w : World} {K : PySem.W.Frag} {mg : Str → Option Value} {base : Heap} {f : Addr} {fd : FuncData}
def spLaw (K : PySem.W.Frag) : Sp := fun vs H Q _ => ∃ (a : Addr) (ns : List Int), vs = [.ref a] ∧ SqL K H a (ns.map V.int) ∧ ∀ H', Q (.bl true) H'
theorem ok_law (T : Bt mg) (G_law_lane : Has P w K mg base 3 "_law_lane" ["_law_row", "_law_most"] (spLawLane K)) (G_thresholds : Has P w K mg base 4 "thresholds" ["lane"] spThresholdsOf) (G_count_kinds : Has P w K mg base 4 "count_kinds" ["lane"] spCountKinds)
    (G_spare_kinds : Has P w K mg base 65 "spare_kinds" ["lane"] spSpareKinds) (G_least_kinds : Has P w K mg base 65 "least_kinds" ["lefts", "rights"] spLeastKinds)
    (G_law_region : Has P w K mg base 2 "_law_region" ["_law_row", "_law_wide", "_law_high"] (spLawRegion K)) (G_lane_of : Has P w K mg base 65 "lane_of" ["region"] spLaneOf) (G_region : Has P w K mg base 5 "region" ["lane"] spRegionOf) (G_sides : Has P w K mg base 4 "sides" ["lane"] spSides)
    (G_region_kinds : Has P w K mg base 66 "region_kinds" ["region"] spRegionKinds)
    (G_law_lists : Has P w K mg base 1 "_law_lists" ["_law_many", "_law_most"] spLists) (G_region_by : Has P w K mg base 5 "region_by" ["lefts", "rights"] spRegionBy) (G_law_alike : Has P w K mg base 1 "_law_alike" ["_law_found", "_law_due"] spAlike)
    (F : FnP K "law" s_law f fd) : FnOk P w K mg base CX0 67 f fd ["_law_script"] (spLaw K) := by
  refine F.ok sc_law (fun vs H Q E h => ?_) (fun cdv A outer s H vs Q E hr h => ?_)
  · obtain ⟨a, ns, rfl, _⟩ := h
    rfl
  obtain ⟨sc, ns, rfl, hsc, q⟩ := h
  obtain ⟨t5, PT5, tail⟩ := law_tail5 (P := P) (w := w) (K := K) (base := base) (f := f) (cdv := cdv) (outer := outer) (H := H) (E := E) T G_law_lane G_thresholds G_count_kinds G_spare_kinds G_least_kinds G_law_region G_lane_of G_region G_sides G_region_kinds hr
  refine ⟨_, PSs.nox (pss_cons (ps_set (i := 1) sc_law.nd rfl (Or.inl rfl) (pe_lst (pa_cons (pv 0) (pa_cons pe_int (pa_cons pe_int (pa_cons pe_int pa_nil))))))
  (pss_cons (ps_set (i := 2) sc_law.nd rfl (Or.inl rfl) (pe_fn G_law_region (hr.mono (by decide)) (pa_cons (pv 1) (pa_cons pe_int (pa_cons pe_int pa_nil)))))
  (pss_cons (ps_set (i := 3) sc_law.nd rfl (Or.inl rfl) (pe_lst pa_nil))
  (pss_cons (ps_for PassesOwn.never rfl (pi_list (pe_fn G_law_lists (hr.mono (by decide)) (pa_cons (pe_op op_sub (pe_callB call_len_seq (by rfl) T.len (by decide +kernel) (pa_cons (pv 2) pa_nil)) pe_int) (pa_cons (pe_ix ix_tup (pe_ix ix_tup (pv 2) (pe_un un_neg pe_int) (fun _ _ => rfl)) pe_int (fun _ _ => rfl)) pa_nil)))) (pg_name (i := 4) sc_law.nd rfl (Or.inl rfl)) (pss_one (ps_for PassesOwn.never rfl (pi_list (pe_fn G_law_lists (hr.mono (by decide)) (pa_cons (pe_ix ix_tup (pe_ix ix_tup (pv 2) (pe_un un_neg pe_int) (fun _ _ => rfl)) pe_int (fun _ _ => rfl)) (pa_cons (pe_op op_sub (pe_callB call_len_seq (by rfl) T.len (by decide +kernel) (pa_cons (pv 2) pa_nil)) pe_int) pa_nil)))) (pg_name (i := 5) sc_law.nd rfl (Or.inl rfl)) (pss_one (ps_if (pt_cmpR (op_eqD hr.units) (pe_fn G_region_by (hr.mono (by decide)) (pa_cons (pv 4) (pa_cons (pv 5) pa_nil))) (pv 2) (nomark _)) (pss_one (ps_expr (pe_bm PySem.F.plainAttrs_list PySem.F.slot_list_append PySem.F.type_list_append mt_append (pv 3) (pa_cons (pe_fn G_least_kinds (hr.mono (by decide)) (pa_cons (pv 4) (pa_cons (pv 5) pa_nil))) pa_nil)))) pss_nil)))))
  (pss_cons (ps_if (pt_not (pt_val (pe_fn G_law_alike (hr.mono (by decide)) (pa_cons (pe_fn G_region_kinds (hr.mono (by decide)) (pa_cons (pv 2) pa_nil)) (pa_cons (pe_callB (cr_min rfl) (by rfl) T.min (by decide +kernel) (pa_cons (pv 3) pa_nil)) pa_nil))))) (pss_one (ps_ret pe_bl)) pss_nil)
  PT5))))), ?_⟩
  walk_at "rd"
  refine ⟨by simp [sizeLine], fun row hrow => ?_⟩
  have hd : DrawH K (upd H row (HO.lst [V.ref sc, V.int 0, V.int 4729, V.int 0])) row sc ns := ⟨0, 4729, 0, sq_far hsc hrow, sqL_far (sq_far hsc hrow) hsc _, upd_same⟩
  generalize upd H row (HO.lst [V.ref sc, V.int 0, V.int 4729, V.int 0]) = H1 at hd ⊢
  walk_at "rd"
  refine ⟨row, 2, 2, rfl, by decide, by decide, sc, ns, hd, fun a g H2 g2 hd2 hg ok => ?_⟩
  have ok : RegOk g 3 2 := ok
  obtain ⟨xs, hxs, prg⟩ := id hg
  have lx := paired_len prg
  have lp := ok.pos
  have lw := ok.wide
  have hr2 : rightOf g ≤ 2 := (ok.col (g.length - 1) (by omega)).2
  obtain ⟨v9, hv9, c9, rfl, hc9⟩ := paired_at prg (getD_at (g := g) (i := g.length - 1) (by omega))
  walk_at "rd"
  intro D hD
  have far := hd2.far hD
  have hDr := hd2.ne hD
  have s3 := same_new hD (HO.lst [])
  walk_at "rd"
  refine ⟨a, _, rfl, .inr (SqT.of (s3 _ _ hxs)), ?_⟩
  rw [lx]
  walk_at "rd"
  refine ⟨a, _, _, _, rfl, rfl, SqT.of (s3 _ _ hxs), at_last (j := g.length - 1) (by omega) hv9, ?_⟩
  walk_at "rd"
  refine ⟨c9, _, _, _, rfl, rfl, SqT.of (s3 _ _ hc9), rfl, ?_⟩
  have eN : ((g.length : Int) - 1) = ((g.length - 1 : Nat) : Int) := by omega
  refine ⟨g.length - 1, rightOf g, ?_, by omega, hr2, fun l1 H4 g4 hl1 => ?_⟩
  · show [V.int ((g.length : Int) - 1), V.int ((rightOf g : Nat) : Int)] = _
    rw [eN]
  have hD4 : H4 D = some (.lst (intL [])) := g4 _ _ upd_same
  have g24 := s3.trans g4
  have hd4 := hd2.mono g24
  obtain ⟨us1, hus1, pu1⟩ := hl1
  have lu1 := paired_len pu1
  have hDl1 : l1 ≠ D ∨ us1 = [] := by
    by_cases e : l1 = D
    · right
      rw [e, hD4] at hus1
      cases hus1
      rfl
    · exact .inl e
  have hDl1 : l1 ≠ D := by
    rcases hDl1 with h | h
    · exact h
    · exfalso
      rw [h] at lu1
      have := lists_pos (g.length - 1) (rightOf g)
      simp at lu1
      omega
  have tD : ∀ ys, H4 D ≠ some (.tup ys) := notTup_lst hD4
  walk_at "rd"
  refine ⟨⟨_, SqL.of hus1⟩, ?_⟩
  refine for_it walk_list (fun i σ H' => SameR D H4 H' ∧ H' D = some (.lst (intL (((listsOf (g.length - 1) (rightOf g)).take i).flatMap fun l => (listsOf (rightOf g) (g.length - 1)).filterMap (oneOf g l)))) ∧
      ∃ y z, σ = [some (.ref sc), some (.ref row), some (.ref a), some (.ref D), y, z, none, none, none]) ⟨SameR.refl _ _, hD4, _, _, rfl⟩ (fun i σ H' _ p => SqL.of (p.1 _ _ hDl1 hus1)) ?_ (fun σ H5 p5 => ?_)
  · rintro i x σ H5 H6 hi ⟨g5, hD5, y0, z0, rfl⟩ ⟨rfl, hx⟩
    obtain ⟨l, hl, q1, rfl, hq1⟩ := paired_get pu1 hx
    have hg5 : Same H2 H6 := fun b u hb => g5 b u (fun z => by rw [z, hD] at hb; cases hb) (g24 b u hb)
    walk_at "rd"
    refine ⟨a, _, _, _, rfl, rfl, SqT.of (hg5 _ _ hxs), at_last (j := g.length - 1) (by omega) hv9, ?_⟩
    walk_at "rd"
    refine ⟨c9, _, _, _, rfl, rfl, SqT.of (hg5 _ _ hc9), rfl, ?_⟩
    walk_at "rd"
    refine ⟨a, _, rfl, .inr (SqT.of (hg5 _ _ hxs)), ?_⟩
    rw [lx]
    walk_at "rd"
    refine ⟨rightOf g, g.length - 1, ?_, hr2, by omega, fun l2 H7 g7 hl2 => ?_⟩
    · show [V.int ((rightOf g : Nat) : Int), V.int ((g.length : Int) - 1)] = _
      rw [eN]
    obtain ⟨us2, hus2, pu2⟩ := hl2
    have lu2 := paired_len pu2
    have hD7 := g7 _ _ hD5
    have hDl2 : l2 ≠ D := by
      intro e
      rw [e, hD7] at hus2
      have e2 := Option.some.inj hus2
      injection e2 with e3
      rw [← e3] at pu2
      have hh := pu2
      have h0 := lists_pos (rightOf g) (g.length - 1)
      have hb := paired_len hh
      simp only [List.length_map] at hb
      rw [← hb] at h0
      obtain ⟨v, hv⟩ : ∃ v, (intL (((listsOf (g.length - 1) (rightOf g)).take i).flatMap fun l => (listsOf (rightOf g) (g.length - 1)).filterMap (oneOf g l)))[0]? = some v := ⟨_, List.getElem?_eq_getElem (by simpa using h0)⟩
      obtain ⟨r, hr, q2, e5, _⟩ := paired_get hh hv
      rw [List.getElem?_map] at hv
      cases e6 : ((((listsOf (g.length - 1) (rightOf g)).take i).flatMap fun l => (listsOf (rightOf g) (g.length - 1)).filterMap (oneOf g l)))[0]? with
      | none => rw [e6] at hv; cases hv
      | some z =>
        rw [e6] at hv
        rw [e5] at hv
        cases hv
    have g57 := g5.trans (SameR.of g7)
    have tD7 : ∀ ys, H7 D ≠ some (.tup ys) := notTup_lst hD7
    walk_at "rd"
    refine ⟨⟨_, SqL.of hus2⟩, ?_⟩
    refine for_it walk_list (fun j σ H' => SameR D H7 H' ∧ H' D = some (.lst (intL ((((listsOf (g.length - 1) (rightOf g)).take i).flatMap fun l => (listsOf (rightOf g) (g.length - 1)).filterMap (oneOf g l)) ++ ((listsOf (rightOf g) (g.length - 1)).take j).filterMap (oneOf g l)))) ∧
        ∃ z, σ = [some (.ref sc), some (.ref row), some (.ref a), some (.ref D), some (.ref q1), z, none, none, none]) ⟨SameR.refl _ _, by simpa using hD7, _, rfl⟩ (fun i σ H' _ p => SqL.of (p.1 _ _ hDl2 hus2)) ?_ (fun σ H8 p8 => ?_)
    · rintro j x σ H8 H9 hj ⟨g8, hD8, z0, rfl⟩ ⟨rfl, hx2⟩
      obtain ⟨r, hr, q2, rfl, hq2⟩ := paired_get pu2 hx2
      have t8 : TSame H7 H9 := g8.t tD7
      have t48 : TSame H4 H9 := (g57.trans g8).t tD
      have hq1' := RowH.mono hq1 t48
      have hq2' := RowH.mono hq2 t8
      have hg' := RegH.mono hg ((Same.t g24).trans t48)
      have rok := rows_ok ok (List.mem_of_getElem? hl) (List.mem_of_getElem? hr)
      obtain ⟨ys, hys, pry⟩ := id hg'
      walk_at "rd"
      refine ⟨q1, q2, _, _, rfl, hq1', hq2', rok, fun p10 H10 g10 h10 => ?_⟩
      obtain ⟨ws, hws, prw⟩ := h10
      walk_at "rd"
      refine ⟨_, _, .tup (SqT.of hws) (cols_dp prw), .tup (SqT.of (g10 _ _ hys)) (cols_dp (paired_mono pry fun _ _ => ColH.mono (Same.t g10))), tup_shaped _, tup_shaped _, ?_⟩
      rw [tup_eqv]
      walk_at "rd"
      have hD10 := g10 _ _ hD8
      by_cases heq : regionFrom (l.map some) (r.map some) = g
      · have one : oneOf g l r = some (numberFor (l.map some) (r.map some)) := if_pos heq
        (refine iteT ?_ ?_; (· exact decide_eq_true heq))
        walk_at "rd"
        refine ⟨.inl ⟨rfl, _, SqL.of (hD10)⟩, ?_⟩
        walk_at "rd"
        refine ⟨q1, q2, _, _, rfl, RowH.mono hq1' (Same.t g10), RowH.mono hq2' (Same.t g10), rok, fun H11 g11 => ?_⟩
        walk_at "rd"
        have hD11 := g11 _ _ hD10
        have sz : ((((listsOf (g.length - 1) (rightOf g)).take i).flatMap fun l => (listsOf (rightOf g) (g.length - 1)).filterMap (oneOf g l)) ++ ((listsOf (rightOf g) (g.length - 1)).take j).filterMap (oneOf g l)).length ≤ 90 := by
          have f1 := flat_len_le (fun l => (listsOf (rightOf g) (g.length - 1)).filterMap (oneOf g l)) 9 (fun l => Nat.le_trans (List.length_filterMap_le _ _) (lists_len hr2 (by omega))) ((listsOf (g.length - 1) (rightOf g)).take i)
          have f2 : ((listsOf (g.length - 1) (rightOf g)).take i).length ≤ 9 := Nat.le_trans (List.length_take_le _ _) (by have := lists_len (n := g.length - 1) (m := rightOf g) (by omega) hr2; omega)
          have f3 : (((listsOf (rightOf g) (g.length - 1)).take j).filterMap (oneOf g l)).length ≤ 9 := Nat.le_trans (List.length_filterMap_le _ _) (Nat.le_trans (List.length_take_le' _ _) (lists_len hr2 (by omega)))
          rw [List.length_append]
          omega
        refine ⟨D, _, _, rfl, rfl, hD11, sz100 (by rw [List.length_map]; omega), ?_⟩
        refine ⟨((g8.trans (SameR.of g10)).trans (SameR.of g11)).up _, ?_, _, rfl⟩
        rw [upd_same, fm_take hr, one, ← List.append_assoc]
        simp only [intL, List.map_append, List.map_cons, List.map_nil, Option.toList_some]
      · have one : oneOf g l r = none := if_neg heq
        (refine iteF ?_ ?_; (· exact decide_eq_false heq))
        refine ⟨g8.trans (SameR.of g10), ?_, _, rfl⟩
        rw [hD10, fm_take hr, one, Option.toList_none, List.append_nil]
    · obtain ⟨g8, hD8, z0, rfl⟩ := p8
      refine ⟨g57.trans g8, ?_, _, _, rfl⟩
      rw [hD8, lu2, List.take_length, flat_take2 hl]
  · obtain ⟨g5, hD5, y0, z0, rfl⟩ := p5
    rw [lu1, List.take_length, ← best_is] at hD5
    have t5s : TSame H4 H5 := g5.t tD
    have hg' := RegH.mono hg ((Same.t g24).trans t5s)
    obtain ⟨sm1, sm2⟩ := small_all ok
    have hd5 := hd4.sameR far hDr g5
    walk_at "rd"
    refine ⟨a, g, rfl, hg', ok.le (by decide) (by decide), fun H6 g6 => ?_⟩
    walk_at "rd"
    refine ⟨D, (bestOf g).map (fun v : Nat => ((v : Nat) : Int)), rfl, SqL.of (by rw [g6 _ _ hD5]; simp only [intL, List.map_map]; rfl), ?_, fun m hm hle => ?_⟩
    · rw [List.length_map]
      exact List.length_pos_of_mem sm1
    obtain ⟨v, hv, rfl⟩ := List.mem_map.mp hm
    have e1 := sm2 v hv
    have e2 := hle _ (List.mem_map_of_mem (f := fun v : Nat => (v : Int)) sm1)
    walk_at "rd"
    intro H7 g7
    walk_at "rd"
    have dec : decide (((numberFor ((leftsOf g).map some) ((rightsOf g).map some) : Nat) : Int) = ((v : Nat) : Int)) = true := by
      have e3 : ((v : Nat) : Int) ≤ ((numOf g : Nat) : Int) := e2
      have e4 : numOf g = numberFor ((leftsOf g).map some) ((rightsOf g).map some) := rfl
      rw [← e4]
      exact decide_eq_true (by omega)
    (refine iteF ?_ ?_; (· rw [dec]; rfl))
    have hd7 := (hd5.mono g6).mono g7
    walk_at "rd"
    exact tail _ _ row sc ns _ _ _ _ _ _ _ _ hd7 q
end
end Kl

/-! ## KlEnd -/
namespace Kl
open PySem PySem.Spec PyProof.Rows L2
def d_is_int : He.DefD := ⟨("is_int", none), "is_int", "is_int", defArgs s_is_int, defBody s_is_int, defScope s_is_int, [], []⟩
def d_is_in : He.DefD := ⟨("is_in", none), "is_in", "is_in", defArgs s_is_in, defBody s_is_in, defScope s_is_in, [], []⟩
def d_is_set : He.DefD := ⟨("is_set", none), "is_set", "is_set", defArgs s_is_set, defBody s_is_set, defScope s_is_set, [], []⟩
def d_need_lane : He.DefD := ⟨("need_lane", none), "need_lane", "need_lane", defArgs s_need_lane, defBody s_need_lane, defScope s_need_lane, [], []⟩
def d_sides_of : He.DefD := ⟨("sides_of", none), "sides_of", "sides_of", defArgs s_sides_of, defBody s_sides_of, defScope s_sides_of, [], []⟩
def d_left_room : He.DefD := ⟨("left_room", none), "left_room", "left_room", defArgs s_left_room, defBody s_left_room, defScope s_left_room, [], []⟩
def d_right_room : He.DefD := ⟨("right_room", none), "right_room", "right_room", defArgs s_right_room, defBody s_right_room, defScope s_right_room, [], []⟩
def d_left_door : He.DefD := ⟨("left_door", none), "left_door", "left_door", defArgs s_left_door, defBody s_left_door, defScope s_left_door, [], []⟩
def d_right_door : He.DefD := ⟨("right_door", none), "right_door", "right_door", defArgs s_right_door, defBody s_right_door, defScope s_right_door, [], []⟩
def d_firsts_of : He.DefD := ⟨("firsts_of", none), "firsts_of", "firsts_of", defArgs s_firsts_of, defBody s_firsts_of, defScope s_firsts_of, [], []⟩
def d_held_back : He.DefD := ⟨("held_back", none), "held_back", "held_back", defArgs s_held_back, defBody s_held_back, defScope s_held_back, [], []⟩
def d_thresholds_of : He.DefD := ⟨("thresholds_of", none), "thresholds_of", "thresholds_of", defArgs s_thresholds_of, defBody s_thresholds_of, defScope s_thresholds_of, [], []⟩
def d_sides : He.DefD := ⟨("sides", none), "sides", "sides", defArgs s_sides, defBody s_sides, defScope s_sides, [], []⟩
def d_thresholds : He.DefD := ⟨("thresholds", none), "thresholds", "thresholds", defArgs s_thresholds, defBody s_thresholds, defScope s_thresholds, [], []⟩
def d_is_column : He.DefD := ⟨("is_column", none), "is_column", "is_column", defArgs s_is_column, defBody s_is_column, defScope s_is_column, [], []⟩
def d_fits_behind : He.DefD := ⟨("fits_behind", none), "fits_behind", "fits_behind", defArgs s_fits_behind, defBody s_fits_behind, defScope s_fits_behind, [], []⟩
def d_need_region : He.DefD := ⟨("need_region", none), "need_region", "need_region", defArgs s_need_region, defBody s_need_region, defScope s_need_region, [], []⟩
def d_end_of : He.DefD := ⟨("end_of", none), "end_of", "end_of", defArgs s_end_of, defBody s_end_of, defScope s_end_of, [], []⟩
def d_region_from : He.DefD := ⟨("region_from", none), "region_from", "region_from", defArgs s_region_from, defBody s_region_from, defScope s_region_from, [], []⟩
def d_region : He.DefD := ⟨("region", none), "region", "region", defArgs s_region, defBody s_region, defScope s_region, [], []⟩
def d_region_of : He.DefD := ⟨("region_of", none), "region_of", "region_of", defArgs s_region_of, defBody s_region_of, defScope s_region_of, [], []⟩
def d_are_rows : He.DefD := ⟨("are_rows", none), "are_rows", "are_rows", defArgs s_are_rows, defBody s_are_rows, defScope s_are_rows, [], []⟩
def d_need_rows : He.DefD := ⟨("need_rows", none), "need_rows", "need_rows", defArgs s_need_rows, defBody s_need_rows, defScope s_need_rows, [], []⟩
def d_region_by : He.DefD := ⟨("region_by", none), "region_by", "region_by", defArgs s_region_by, defBody s_region_by, defScope s_region_by, [], []⟩
def d_rows_for : He.DefD := ⟨("rows_for", none), "rows_for", "rows_for", defArgs s_rows_for, defBody s_rows_for, defScope s_rows_for, [], []⟩
def d_groups_of : He.DefD := ⟨("groups_of", none), "groups_of", "groups_of", defArgs s_groups_of, defBody s_groups_of, defScope s_groups_of, [], []⟩
def d_is_beyond : He.DefD := ⟨("is_beyond", none), "is_beyond", "is_beyond", defArgs s_is_beyond, defBody s_is_beyond, defScope s_is_beyond, [], []⟩
def d_sharing : He.DefD := ⟨("sharing", none), "sharing", "sharing", defArgs s_sharing, defBody s_sharing, defScope s_sharing, [], []⟩
def d_augmented : He.DefD := ⟨("augmented", none), "augmented", "augmented", defArgs s_augmented, defBody s_augmented, defScope s_augmented, [], []⟩
def d_partners_of : He.DefD := ⟨("partners_of", none), "partners_of", "partners_of", defArgs s_partners_of, defBody s_partners_of, defScope s_partners_of, [], []⟩
def d_kinds_of : He.DefD := ⟨("kinds_of", none), "kinds_of", "kinds_of", defArgs s_kinds_of, defBody s_kinds_of, defScope s_kinds_of, [], []⟩
def d_number_for : He.DefD := ⟨("number_for", none), "number_for", "number_for", defArgs s_number_for, defBody s_number_for, defScope s_number_for, [], []⟩
def d_least_kinds : He.DefD := ⟨("least_kinds", none), "least_kinds", "least_kinds", defArgs s_least_kinds, defBody s_least_kinds, defScope s_least_kinds, [], []⟩
def d_lane_by : He.DefD := ⟨("lane_by", none), "lane_by", "lane_by", defArgs s_lane_by, defBody s_lane_by, defScope s_lane_by, [], []⟩
def d_kinds_in : He.DefD := ⟨("kinds_in", none), "kinds_in", "kinds_in", defArgs s_kinds_in, defBody s_kinds_in, defScope s_kinds_in, [], []⟩
def d_count_kinds : He.DefD := ⟨("count_kinds", none), "count_kinds", "count_kinds", defArgs s_count_kinds, defBody s_count_kinds, defScope s_count_kinds, [], []⟩
def d_region_kinds : He.DefD := ⟨("region_kinds", none), "region_kinds", "region_kinds", defArgs s_region_kinds, defBody s_region_kinds, defScope s_region_kinds, [], []⟩
def d_lane_of : He.DefD := ⟨("lane_of", none), "lane_of", "lane_of", defArgs s_lane_of, defBody s_lane_of, defScope s_lane_of, [], []⟩
def d_spare_kinds : He.DefD := ⟨("spare_kinds", none), "spare_kinds", "spare_kinds", defArgs s_spare_kinds, defBody s_spare_kinds, defScope s_spare_kinds, [], []⟩
def d_law_taken : He.DefD := ⟨("_law_taken", none), "_law_taken", "_law_taken", defArgs s_law_taken, defBody s_law_taken, defScope s_law_taken, [], []⟩
def d_law_pick : He.DefD := ⟨("_law_pick", none), "_law_pick", "_law_pick", defArgs s_law_pick, defBody s_law_pick, defScope s_law_pick, [], []⟩
def d_law_alike : He.DefD := ⟨("_law_alike", none), "_law_alike", "_law_alike", defArgs s_law_alike, defBody s_law_alike, defScope s_law_alike, [], []⟩
def d_law_lane : He.DefD := ⟨("_law_lane", none), "_law_lane", "_law_lane", defArgs s_law_lane, defBody s_law_lane, defScope s_law_lane, [], []⟩
def d_law_region : He.DefD := ⟨("_law_region", none), "_law_region", "_law_region", defArgs s_law_region, defBody s_law_region, defScope s_law_region, [], []⟩
def d_law_lists : He.DefD := ⟨("_law_lists", none), "_law_lists", "_law_lists", defArgs s_law_lists, defBody s_law_lists, defScope s_law_lists, [], []⟩
def d_law : He.DefD := ⟨("law", none), "law", "law", defArgs s_law, defBody s_law, defScope s_law, [], []⟩
def fnA : List He.DefD := [d_is_int, d_is_in, d_is_set, d_need_lane, d_sides_of, d_left_room, d_right_room, d_left_door, d_right_door, d_firsts_of, d_held_back, d_thresholds_of, d_sides, d_thresholds, d_is_column, d_fits_behind, d_need_region, d_end_of, d_region_from, d_region, d_region_of, d_are_rows, d_need_rows]
def fnB : List He.DefD := [d_region_by, d_rows_for, d_groups_of, d_is_beyond, d_sharing, d_augmented, d_partners_of, d_kinds_of, d_number_for, d_least_kinds, d_lane_by, d_kinds_in, d_count_kinds, d_region_kinds, d_lane_of, d_spare_kinds, d_law_taken, d_law_pick, d_law_alike, d_law_lane, d_law_region, d_law_lists, d_law]
def fn : List He.DefD := fnA ++ fnB
def namesA : List PySem.Str := ["__name__", "LaneError", "BadLane", "BadRegion", "BadRows", "TooMany", "MOST_ROOMS", "KINDS", "is_int", "is_in", "is_set", "need_lane", "sides_of", "left_room", "right_room", "left_door", "right_door", "firsts_of", "held_back", "thresholds_of", "sides", "thresholds", "is_column", "fits_behind", "need_region", "end_of", "region_from", "region", "region_of", "are_rows"]
def namesB : List PySem.Str := ["need_rows", "region_by", "rows_for", "groups_of", "is_beyond", "sharing", "augmented", "partners_of", "kinds_of", "number_for", "least_kinds", "lane_by", "kinds_in", "count_kinds", "region_kinds", "lane_of", "spare_kinds", "_law_taken", "_law_pick", "_law_alike", "_law_lane", "_law_region", "_law_lists"]
def names : List PySem.Str := namesA ++ namesB
def faA : List He.Fa := [.free "len", .free "isinstance", .free "int", .free "bool", .free "str", .free "tuple", .free "list", .free "all", .free "any", .free "zip", .free "enumerate", .free "range", .free "max", .free "min", .free "sorted", .free "set", .int "MOST_ROOMS" 60, .str "KINDS" "abcdefghijkl"]
def faB : List He.Fa := [.glo "is_int", .glo "is_in", .glo "is_set", .glo "need_lane", .glo "sides_of", .glo "left_room", .glo "right_room", .glo "left_door", .glo "right_door", .glo "firsts_of", .glo "held_back", .glo "thresholds_of", .glo "sides", .glo "thresholds", .glo "is_column", .glo "fits_behind", .glo "need_region", .glo "end_of", .glo "region_from", .glo "region", .glo "region_of", .glo "are_rows", .glo "need_rows"]
def faC : List He.Fa := [.glo "region_by", .glo "rows_for", .glo "groups_of", .glo "is_beyond", .glo "sharing", .glo "augmented", .glo "partners_of", .glo "kinds_of", .glo "number_for", .glo "least_kinds", .glo "lane_by", .glo "kinds_in", .glo "count_kinds", .glo "region_kinds", .glo "lane_of", .glo "spare_kinds", .glo "_law_taken", .glo "_law_pick", .glo "_law_alike", .glo "_law_lane", .glo "_law_region", .glo "_law_lists", .glo "law"]
def fa : List He.Fa := faA ++ (faB ++ faC)

abbrev R : PySem.W.OpenRow := PySem.W.OpenLaw.row PySem.Challenge.rw_keylanes_k29_whole_kinds_of_regions
abbrev hk : PySem.W.Hook := He.hookD 4 fa fn
def ob (s : PySem.W.SharedT) : He.AlD := He.obsDG 4 fa fn (HandSHeadRun.getT s)
theorem ob_eq (s : PySem.W.SharedT) : ob s = hk.obs s.abs := He.obsDG_eq (HandSHeadRun.getT_eq s)
theorem run (w : World) : HandSHeadRun.RunEq R (PySem.W.view R.prog [57]) hk ob 4000 names w := by
  intro os
  kernel_rfl
theorem bt_of {K : PySem.W.Frag} {h : Heap} {mg : Str → Option Value} (X : K.In h) (G : h.Ns mainGlobals mg) (c : He.SaysD fa fn K) : Bt mg where
  len := He.free_ok X G (c.fact 0 (f := .free "len") rfl)
  isi := He.free_ok X G (c.fact 1 (f := .free "isinstance") rfl)
  int := He.free_ok X G (c.fact 2 (f := .free "int") rfl)
  bool := He.free_ok X G (c.fact 3 (f := .free "bool") rfl)
  str := He.free_ok X G (c.fact 4 (f := .free "str") rfl)
  tuple := He.free_ok X G (c.fact 5 (f := .free "tuple") rfl)
  list := He.free_ok X G (c.fact 6 (f := .free "list") rfl)
  all := He.free_ok X G (c.fact 7 (f := .free "all") rfl)
  any := He.free_ok X G (c.fact 8 (f := .free "any") rfl)
  zip := He.free_ok X G (c.fact 9 (f := .free "zip") rfl)
  enumerate := He.free_ok X G (c.fact 10 (f := .free "enumerate") rfl)
  range := He.free_ok X G (c.fact 11 (f := .free "range") rfl)
  max := He.free_ok X G (c.fact 12 (f := .free "max") rfl)
  min := He.free_ok X G (c.fact 13 (f := .free "min") rfl)
  sorted := He.free_ok X G (c.fact 14 (f := .free "sorted") rfl)
  set := He.free_ok X G (c.fact 15 (f := .free "set") rfl)
  mr := He.int_ok X G (c.fact 16 (f := .int "MOST_ROOMS" 60) rfl)
  ki := He.str_ok X G (c.fact 17 (f := .str "KINDS" "abcdefghijkl") rfl)
theorem facts {P : Program} {w : World} {K : PySem.W.Frag} {h : Heap} {mg : Str → Option Value} {f : Addr} (X : K.In h) (G : h.Ns mainGlobals mg) (hfa : mg ("law" : Str) = some (.ref f)) (c : He.SaysD fa fn K) :
    ∃ fd : FuncData, (∀ (s : Shared) (v : Value), BindsTo s fd ⟨[v], []⟩ [("_law_script", v)]) ∧ ∀ base : Heap, K.In base → base.Ns mainGlobals mg → FnOk P w K mg base CX0 67 f fd ["_law_script"] (spLaw K) := by
  have T : Bt mg := bt_of X G c
  obtain ⟨fd_is_int, F_is_int⟩ := c.def_ 0 (d := d_is_int) rfl
  have m_is_int := He.glo_ok X G (c.fact 18 (f := .glo "is_int") rfl)
  obtain ⟨fd_is_in, F_is_in⟩ := c.def_ 1 (d := d_is_in) rfl
  have m_is_in := He.glo_ok X G (c.fact 19 (f := .glo "is_in") rfl)
  obtain ⟨fd_is_set, F_is_set⟩ := c.def_ 2 (d := d_is_set) rfl
  have m_is_set := He.glo_ok X G (c.fact 20 (f := .glo "is_set") rfl)
  obtain ⟨fd_need_lane, F_need_lane⟩ := c.def_ 3 (d := d_need_lane) rfl
  have m_need_lane := He.glo_ok X G (c.fact 21 (f := .glo "need_lane") rfl)
  obtain ⟨fd_sides_of, F_sides_of⟩ := c.def_ 4 (d := d_sides_of) rfl
  have m_sides_of := He.glo_ok X G (c.fact 22 (f := .glo "sides_of") rfl)
  obtain ⟨fd_left_room, F_left_room⟩ := c.def_ 5 (d := d_left_room) rfl
  have m_left_room := He.glo_ok X G (c.fact 23 (f := .glo "left_room") rfl)
  obtain ⟨fd_right_room, F_right_room⟩ := c.def_ 6 (d := d_right_room) rfl
  have m_right_room := He.glo_ok X G (c.fact 24 (f := .glo "right_room") rfl)
  obtain ⟨fd_left_door, F_left_door⟩ := c.def_ 7 (d := d_left_door) rfl
  have m_left_door := He.glo_ok X G (c.fact 25 (f := .glo "left_door") rfl)
  obtain ⟨fd_right_door, F_right_door⟩ := c.def_ 8 (d := d_right_door) rfl
  have m_right_door := He.glo_ok X G (c.fact 26 (f := .glo "right_door") rfl)
  obtain ⟨fd_firsts_of, F_firsts_of⟩ := c.def_ 9 (d := d_firsts_of) rfl
  have m_firsts_of := He.glo_ok X G (c.fact 27 (f := .glo "firsts_of") rfl)
  obtain ⟨fd_held_back, F_held_back⟩ := c.def_ 10 (d := d_held_back) rfl
  have m_held_back := He.glo_ok X G (c.fact 28 (f := .glo "held_back") rfl)
  obtain ⟨fd_thresholds_of, F_thresholds_of⟩ := c.def_ 11 (d := d_thresholds_of) rfl
  have m_thresholds_of := He.glo_ok X G (c.fact 29 (f := .glo "thresholds_of") rfl)
  obtain ⟨fd_sides, F_sides⟩ := c.def_ 12 (d := d_sides) rfl
  have m_sides := He.glo_ok X G (c.fact 30 (f := .glo "sides") rfl)
  obtain ⟨fd_thresholds, F_thresholds⟩ := c.def_ 13 (d := d_thresholds) rfl
  have m_thresholds := He.glo_ok X G (c.fact 31 (f := .glo "thresholds") rfl)
  obtain ⟨fd_is_column, F_is_column⟩ := c.def_ 14 (d := d_is_column) rfl
  have m_is_column := He.glo_ok X G (c.fact 32 (f := .glo "is_column") rfl)
  obtain ⟨fd_fits_behind, F_fits_behind⟩ := c.def_ 15 (d := d_fits_behind) rfl
  have m_fits_behind := He.glo_ok X G (c.fact 33 (f := .glo "fits_behind") rfl)
  obtain ⟨fd_need_region, F_need_region⟩ := c.def_ 16 (d := d_need_region) rfl
  have m_need_region := He.glo_ok X G (c.fact 34 (f := .glo "need_region") rfl)
  obtain ⟨fd_end_of, F_end_of⟩ := c.def_ 17 (d := d_end_of) rfl
  have m_end_of := He.glo_ok X G (c.fact 35 (f := .glo "end_of") rfl)
  obtain ⟨fd_region_from, F_region_from⟩ := c.def_ 18 (d := d_region_from) rfl
  have m_region_from := He.glo_ok X G (c.fact 36 (f := .glo "region_from") rfl)
  obtain ⟨fd_region, F_region⟩ := c.def_ 19 (d := d_region) rfl
  have m_region := He.glo_ok X G (c.fact 37 (f := .glo "region") rfl)
  obtain ⟨fd_region_of, F_region_of⟩ := c.def_ 20 (d := d_region_of) rfl
  have m_region_of := He.glo_ok X G (c.fact 38 (f := .glo "region_of") rfl)
  obtain ⟨fd_are_rows, F_are_rows⟩ := c.def_ 21 (d := d_are_rows) rfl
  have m_are_rows := He.glo_ok X G (c.fact 39 (f := .glo "are_rows") rfl)
  obtain ⟨fd_need_rows, F_need_rows⟩ := c.def_ 22 (d := d_need_rows) rfl
  have m_need_rows := He.glo_ok X G (c.fact 40 (f := .glo "need_rows") rfl)
  obtain ⟨fd_region_by, F_region_by⟩ := c.def_ 23 (d := d_region_by) rfl
  have m_region_by := He.glo_ok X G (c.fact 41 (f := .glo "region_by") rfl)
  obtain ⟨fd_rows_for, F_rows_for⟩ := c.def_ 24 (d := d_rows_for) rfl
  have m_rows_for := He.glo_ok X G (c.fact 42 (f := .glo "rows_for") rfl)
  obtain ⟨fd_groups_of, F_groups_of⟩ := c.def_ 25 (d := d_groups_of) rfl
  have m_groups_of := He.glo_ok X G (c.fact 43 (f := .glo "groups_of") rfl)
  obtain ⟨fd_is_beyond, F_is_beyond⟩ := c.def_ 26 (d := d_is_beyond) rfl
  have m_is_beyond := He.glo_ok X G (c.fact 44 (f := .glo "is_beyond") rfl)
  obtain ⟨fd_sharing, F_sharing⟩ := c.def_ 27 (d := d_sharing) rfl
  have m_sharing := He.glo_ok X G (c.fact 45 (f := .glo "sharing") rfl)
  obtain ⟨fd_augmented, F_augmented⟩ := c.def_ 28 (d := d_augmented) rfl
  have m_augmented := He.glo_ok X G (c.fact 46 (f := .glo "augmented") rfl)
  obtain ⟨fd_partners_of, F_partners_of⟩ := c.def_ 29 (d := d_partners_of) rfl
  have m_partners_of := He.glo_ok X G (c.fact 47 (f := .glo "partners_of") rfl)
  obtain ⟨fd_kinds_of, F_kinds_of⟩ := c.def_ 30 (d := d_kinds_of) rfl
  have m_kinds_of := He.glo_ok X G (c.fact 48 (f := .glo "kinds_of") rfl)
  obtain ⟨fd_number_for, F_number_for⟩ := c.def_ 31 (d := d_number_for) rfl
  have m_number_for := He.glo_ok X G (c.fact 49 (f := .glo "number_for") rfl)
  obtain ⟨fd_least_kinds, F_least_kinds⟩ := c.def_ 32 (d := d_least_kinds) rfl
  have m_least_kinds := He.glo_ok X G (c.fact 50 (f := .glo "least_kinds") rfl)
  obtain ⟨fd_lane_by, F_lane_by⟩ := c.def_ 33 (d := d_lane_by) rfl
  have m_lane_by := He.glo_ok X G (c.fact 51 (f := .glo "lane_by") rfl)
  obtain ⟨fd_kinds_in, F_kinds_in⟩ := c.def_ 34 (d := d_kinds_in) rfl
  have m_kinds_in := He.glo_ok X G (c.fact 52 (f := .glo "kinds_in") rfl)
  obtain ⟨fd_count_kinds, F_count_kinds⟩ := c.def_ 35 (d := d_count_kinds) rfl
  have m_count_kinds := He.glo_ok X G (c.fact 53 (f := .glo "count_kinds") rfl)
  obtain ⟨fd_region_kinds, F_region_kinds⟩ := c.def_ 36 (d := d_region_kinds) rfl
  have m_region_kinds := He.glo_ok X G (c.fact 54 (f := .glo "region_kinds") rfl)
  obtain ⟨fd_lane_of, F_lane_of⟩ := c.def_ 37 (d := d_lane_of) rfl
  have m_lane_of := He.glo_ok X G (c.fact 55 (f := .glo "lane_of") rfl)
  obtain ⟨fd_spare_kinds, F_spare_kinds⟩ := c.def_ 38 (d := d_spare_kinds) rfl
  have m_spare_kinds := He.glo_ok X G (c.fact 56 (f := .glo "spare_kinds") rfl)
  obtain ⟨fd_law_taken, F_law_taken⟩ := c.def_ 39 (d := d_law_taken) rfl
  have m_law_taken := He.glo_ok X G (c.fact 57 (f := .glo "_law_taken") rfl)
  obtain ⟨fd_law_pick, F_law_pick⟩ := c.def_ 40 (d := d_law_pick) rfl
  have m_law_pick := He.glo_ok X G (c.fact 58 (f := .glo "_law_pick") rfl)
  obtain ⟨fd_law_alike, F_law_alike⟩ := c.def_ 41 (d := d_law_alike) rfl
  have m_law_alike := He.glo_ok X G (c.fact 59 (f := .glo "_law_alike") rfl)
  obtain ⟨fd_law_lane, F_law_lane⟩ := c.def_ 42 (d := d_law_lane) rfl
  have m_law_lane := He.glo_ok X G (c.fact 60 (f := .glo "_law_lane") rfl)
  obtain ⟨fd_law_region, F_law_region⟩ := c.def_ 43 (d := d_law_region) rfl
  have m_law_region := He.glo_ok X G (c.fact 61 (f := .glo "_law_region") rfl)
  obtain ⟨fd_law_lists, F_law_lists⟩ := c.def_ 44 (d := d_law_lists) rfl
  have m_law_lists := He.glo_ok X G (c.fact 62 (f := .glo "_law_lists") rfl)
  obtain ⟨fd_law, F_law⟩ := c.def_ 45 (d := d_law) rfl
  have m_law := He.glo_ok X G (c.fact 63 (f := .glo "law") rfl)
  have e := hfa.symm.trans m_law
  cases e
  have b_is_int : Binds K fd_is_int ["value"] [] := F_is_int.bindsN fun _ _ _ _ _ _ us hl => match us, hl with | [_], _ => rfl
  have b_is_in : Binds K fd_is_in ["value", "least", "most"] [] := F_is_in.bindsN fun _ _ _ _ _ _ us hl => match us, hl with | [_, _, _], _ => rfl
  have b_is_set : Binds K fd_is_set ["value"] [] := F_is_set.bindsN fun _ _ _ _ _ _ us hl => match us, hl with | [_], _ => rfl
  have b_need_lane : Binds K fd_need_lane ["value"] [] := F_need_lane.bindsN fun _ _ _ _ _ _ us hl => match us, hl with | [_], _ => rfl
  have b_sides_of : Binds K fd_sides_of ["lane"] [] := F_sides_of.bindsN fun _ _ _ _ _ _ us hl => match us, hl with | [_], _ => rfl
  have b_left_room : Binds K fd_left_room ["lane", "x"] [] := F_left_room.bindsN fun _ _ _ _ _ _ us hl => match us, hl with | [_, _], _ => rfl
  have b_right_room : Binds K fd_right_room ["lane", "y"] [] := F_right_room.bindsN fun _ _ _ _ _ _ us hl => match us, hl with | [_, _], _ => rfl
  have b_left_door : Binds K fd_left_door ["lane", "x"] [] := F_left_door.bindsN fun _ _ _ _ _ _ us hl => match us, hl with | [_, _], _ => rfl
  have b_right_door : Binds K fd_right_door ["lane", "y"] [] := F_right_door.bindsN fun _ _ _ _ _ _ us hl => match us, hl with | [_, _], _ => rfl
  have b_firsts_of : Binds K fd_firsts_of ["lane"] [] := F_firsts_of.bindsN fun _ _ _ _ _ _ us hl => match us, hl with | [_], _ => rfl
  have b_held_back : Binds K fd_held_back ["needs", "here", "own", "others"] [] := F_held_back.bindsN fun _ _ _ _ _ _ us hl => match us, hl with | [_, _, _, _], _ => rfl
  have b_thresholds_of : Binds K fd_thresholds_of ["lane"] [] := F_thresholds_of.bindsN fun _ _ _ _ _ _ us hl => match us, hl with | [_], _ => rfl
  have b_sides : Binds K fd_sides ["lane"] [] := F_sides.bindsN fun _ _ _ _ _ _ us hl => match us, hl with | [_], _ => rfl
  have b_thresholds : Binds K fd_thresholds ["lane"] [] := F_thresholds.bindsN fun _ _ _ _ _ _ us hl => match us, hl with | [_], _ => rfl
  have b_is_column : Binds K fd_is_column ["value"] [] := F_is_column.bindsN fun _ _ _ _ _ _ us hl => match us, hl with | [_], _ => rfl
  have b_fits_behind : Binds K fd_fits_behind ["one", "other"] [] := F_fits_behind.bindsN fun _ _ _ _ _ _ us hl => match us, hl with | [_, _], _ => rfl
  have b_need_region : Binds K fd_need_region ["value"] [] := F_need_region.bindsN fun _ _ _ _ _ _ us hl => match us, hl with | [_], _ => rfl
  have b_end_of : Binds K fd_end_of ["region"] [] := F_end_of.bindsN fun _ _ _ _ _ _ us hl => match us, hl with | [_], _ => rfl
  have b_region_from : Binds K fd_region_from ["lefts", "rights"] [] := F_region_from.bindsN fun _ _ _ _ _ _ us hl => match us, hl with | [_, _], _ => rfl
  have b_region : Binds K fd_region ["lane"] [] := F_region.bindsN fun _ _ _ _ _ _ us hl => match us, hl with | [_], _ => rfl
  have b_region_of : Binds K fd_region_of ["lane"] [] := F_region_of.bindsN fun _ _ _ _ _ _ us hl => match us, hl with | [_], _ => rfl
  have b_are_rows : Binds K fd_are_rows ["lefts", "rights"] [] := F_are_rows.bindsN fun _ _ _ _ _ _ us hl => match us, hl with | [_, _], _ => rfl
  have b_need_rows : Binds K fd_need_rows ["lefts", "rights"] [] := F_need_rows.bindsN fun _ _ _ _ _ _ us hl => match us, hl with | [_, _], _ => rfl
  have b_region_by : Binds K fd_region_by ["lefts", "rights"] [] := F_region_by.bindsN fun _ _ _ _ _ _ us hl => match us, hl with | [_, _], _ => rfl
  have b_rows_for : Binds K fd_rows_for ["region"] [] := F_rows_for.bindsN fun _ _ _ _ _ _ us hl => match us, hl with | [_], _ => rfl
  have b_groups_of : Binds K fd_groups_of ["own"] [] := F_groups_of.bindsN fun _ _ _ _ _ _ us hl => match us, hl with | [_], _ => rfl
  have b_is_beyond : Binds K fd_is_beyond ["value", "place"] [] := F_is_beyond.bindsN fun _ _ _ _ _ _ us hl => match us, hl with | [_, _], _ => rfl
  have b_sharing : Binds K fd_sharing ["lefts", "rights"] [] := F_sharing.bindsN fun _ _ _ _ _ _ us hl => match us, hl with | [_, _], _ => rfl
  have b_augmented : Binds K fd_augmented ["table", "partners", "at", "seen"] [] := F_augmented.bindsN fun _ _ _ _ _ _ us hl => match us, hl with | [_, _, _, _], _ => rfl
  have b_partners_of : Binds K fd_partners_of ["table"] [] := F_partners_of.bindsN fun _ _ _ _ _ _ us hl => match us, hl with | [_], _ => rfl
  have b_kinds_of : Binds K fd_kinds_of ["lefts", "rights"] [] := F_kinds_of.bindsN fun _ _ _ _ _ _ us hl => match us, hl with | [_, _], _ => rfl
  have b_number_for : Binds K fd_number_for ["lefts", "rights"] [] := F_number_for.bindsN fun _ _ _ _ _ _ us hl => match us, hl with | [_, _], _ => rfl
  have b_least_kinds : Binds K fd_least_kinds ["lefts", "rights"] [] := F_least_kinds.bindsN fun _ _ _ _ _ _ us hl => match us, hl with | [_, _], _ => rfl
  have b_lane_by : Binds K fd_lane_by ["lefts", "rights"] [] := F_lane_by.bindsN fun _ _ _ _ _ _ us hl => match us, hl with | [_, _], _ => rfl
  have b_kinds_in : Binds K fd_kinds_in ["lane"] [] := F_kinds_in.bindsN fun _ _ _ _ _ _ us hl => match us, hl with | [_], _ => rfl
  have b_count_kinds : Binds K fd_count_kinds ["lane"] [] := F_count_kinds.bindsN fun _ _ _ _ _ _ us hl => match us, hl with | [_], _ => rfl
  have b_region_kinds : Binds K fd_region_kinds ["region"] [] := F_region_kinds.bindsN fun _ _ _ _ _ _ us hl => match us, hl with | [_], _ => rfl
  have b_lane_of : Binds K fd_lane_of ["region"] [] := F_lane_of.bindsN fun _ _ _ _ _ _ us hl => match us, hl with | [_], _ => rfl
  have b_spare_kinds : Binds K fd_spare_kinds ["lane"] [] := F_spare_kinds.bindsN fun _ _ _ _ _ _ us hl => match us, hl with | [_], _ => rfl
  have b_law_taken : Binds K fd_law_taken ["_law_row", "_law_many"] [] := F_law_taken.bindsN fun _ _ _ _ _ _ us hl => match us, hl with | [_, _], _ => rfl
  have b_law_pick : Binds K fd_law_pick ["_law_row", "_law_things"] [] := F_law_pick.bindsN fun _ _ _ _ _ _ us hl => match us, hl with | [_, _], _ => rfl
  have b_law_alike : Binds K fd_law_alike ["_law_found", "_law_due"] [] := F_law_alike.bindsN fun _ _ _ _ _ _ us hl => match us, hl with | [_, _], _ => rfl
  have b_law_lane : Binds K fd_law_lane ["_law_row", "_law_most"] [] := F_law_lane.bindsN fun _ _ _ _ _ _ us hl => match us, hl with | [_, _], _ => rfl
  have b_law_region : Binds K fd_law_region ["_law_row", "_law_wide", "_law_high"] [] := F_law_region.bindsN fun _ _ _ _ _ _ us hl => match us, hl with | [_, _, _], _ => rfl
  have b_law_lists : Binds K fd_law_lists ["_law_many", "_law_most"] [] := F_law_lists.bindsN fun _ _ _ _ _ _ us hl => match us, hl with | [_, _], _ => rfl
  have b_law : Binds K fd_law ["_law_script"] [] := F_law.bindsN fun _ _ _ _ _ _ us hl => match us, hl with | [_], _ => rfl
  have bL := FunD.bindsA (ps := ["_law_script"]) F_law fun _ _ _ _ _ _ us hl => match us, hl with | [_], _ => rfl
  refine ⟨fd_law, fun s v => bL s [v] rfl, fun base _ _ => ?_⟩
  have G_is_int : Has P w K mg base 1 "is_int" ["value"] spIsInt := ⟨_, fd_is_int, ok_is_int T F_is_int, m_is_int, F_is_int.kp, b_is_int⟩
  have G_is_in : Has P w K mg base 2 "is_in" ["value", "least", "most"] spIsIn := ⟨_, fd_is_in, ok_is_in F_is_in G_is_int, m_is_in, F_is_in.kp, b_is_in⟩
  have G_sides_of : Has P w K mg base 1 "sides_of" ["lane"] spSidesOf := ⟨_, fd_sides_of, ok_sides_of T F_sides_of, m_sides_of, F_sides_of.kp, b_sides_of⟩
  have G_left_room : Has P w K mg base 1 "left_room" ["lane", "x"] spLeftRoom := ⟨_, fd_left_room, ok_left_room T F_left_room, m_left_room, F_left_room.kp, b_left_room⟩
  have G_right_room : Has P w K mg base 1 "right_room" ["lane", "y"] spRightRoom := ⟨_, fd_right_room, ok_right_room T F_right_room, m_right_room, F_right_room.kp, b_right_room⟩
  have G_left_door : Has P w K mg base 1 "left_door" ["lane", "x"] spLeftDoor := ⟨_, fd_left_door, ok_left_door T F_left_door, m_left_door, F_left_door.kp, b_left_door⟩
  have G_right_door : Has P w K mg base 1 "right_door" ["lane", "y"] spRightDoor := ⟨_, fd_right_door, ok_right_door T F_right_door, m_right_door, F_right_door.kp, b_right_door⟩
  have G_is_set : Has P w K mg base 1 "is_set" ["value"] spIsSet := ⟨_, fd_is_set, ok_is_set T F_is_set, m_is_set, F_is_set.kp, b_is_set⟩
  have G_need_lane : Has P w K mg base 3 "need_lane" ["value"] spNeedLane := ⟨_, fd_need_lane, ok_need_lane T G_is_in G_is_set F_need_lane, m_need_lane, F_need_lane.kp, b_need_lane⟩
  have G_firsts_of : Has P w K mg base 2 "firsts_of" ["lane"] spFirstsOf := ⟨_, fd_firsts_of, ok_firsts_of T G_sides_of G_left_room G_right_room F_firsts_of, m_firsts_of, F_firsts_of.kp, b_firsts_of⟩
  have G_held_back : Has P w K mg base 1 "held_back" ["needs", "here", "own", "others"] spHeldBack := ⟨_, fd_held_back, ok_held_back T F_held_back, m_held_back, F_held_back.kp, b_held_back⟩
  have G_thresholds_of : Has P w K mg base 3 "thresholds_of" ["lane"] spThresholdsOf := ⟨_, fd_thresholds_of, ok_thresholds_of T G_sides_of G_firsts_of G_held_back G_left_door G_right_door F_thresholds_of, m_thresholds_of, F_thresholds_of.kp, b_thresholds_of⟩
  have G_sides : Has P w K mg base 4 "sides" ["lane"] spSides := ⟨_, fd_sides, ok_sides G_need_lane G_sides_of F_sides, m_sides, F_sides.kp, b_sides⟩
  have G_thresholds : Has P w K mg base 4 "thresholds" ["lane"] spThresholdsOf := ⟨_, fd_thresholds, ok_thresholds G_need_lane G_thresholds_of F_thresholds, m_thresholds, F_thresholds.kp, b_thresholds⟩
  have G_is_column : Has P w K mg base 3 "is_column" ["value"] spIsColumn := ⟨_, fd_is_column, ok_is_column T G_is_in F_is_column, m_is_column, F_is_column.kp, b_is_column⟩
  have G_fits_behind : Has P w K mg base 1 "fits_behind" ["one", "other"] spFitsBehind := ⟨_, fd_fits_behind, ok_fits_behind T F_fits_behind, m_fits_behind, F_fits_behind.kp, b_fits_behind⟩
  have G_end_of : Has P w K mg base 1 "end_of" ["region"] spEndOf := ⟨_, fd_end_of, ok_end_of T F_end_of, m_end_of, F_end_of.kp, b_end_of⟩
  have G_need_region : Has P w K mg base 4 "need_region" ["value"] spNeedRegion := ⟨_, fd_need_region, ok_need_region T G_is_column G_fits_behind F_need_region, m_need_region, F_need_region.kp, b_need_region⟩
  have G_region_from : Has P w K mg base 1 "region_from" ["lefts", "rights"] spRegionFrom := ⟨_, fd_region_from, ok_region_from T F_region_from, m_region_from, F_region_from.kp, b_region_from⟩
  have G_region_of : Has P w K mg base 4 "region_of" ["lane"] spRegionOf := ⟨_, fd_region_of, ok_region_of G_thresholds_of G_region_from F_region_of, m_region_of, F_region_of.kp, b_region_of⟩
  have G_region : Has P w K mg base 5 "region" ["lane"] spRegionOf := ⟨_, fd_region, ok_region G_need_lane G_region_of F_region, m_region, F_region.kp, b_region⟩
  have G_are_rows : Has P w K mg base 3 "are_rows" ["lefts", "rights"] spAreRows := ⟨_, fd_are_rows, ok_are_rows T G_is_in F_are_rows, m_are_rows, F_are_rows.kp, b_are_rows⟩
  have G_need_rows : Has P w K mg base 4 "need_rows" ["lefts", "rights"] spNeedRows := ⟨_, fd_need_rows, ok_need_rows G_are_rows F_need_rows, m_need_rows, F_need_rows.kp, b_need_rows⟩
  have G_region_by : Has P w K mg base 5 "region_by" ["lefts", "rights"] spRegionBy := ⟨_, fd_region_by, ok_region_by G_need_rows G_region_from F_region_by, m_region_by, F_region_by.kp, b_region_by⟩
  have G_rows_for : Has P w K mg base 2 "rows_for" ["region"] spRowsFor := ⟨_, fd_rows_for, ok_rows_for T G_end_of F_rows_for, m_rows_for, F_rows_for.kp, b_rows_for⟩
  have G_groups_of : Has P w K mg base 1 "groups_of" ["own"] spGroupsOf := ⟨_, fd_groups_of, ok_groups_of T F_groups_of, m_groups_of, F_groups_of.kp, b_groups_of⟩
  have G_is_beyond : Has P w K mg base 1 "is_beyond" ["value", "place"] spIsBeyond := ⟨_, fd_is_beyond, ok_is_beyond T F_is_beyond, m_is_beyond, F_is_beyond.kp, b_is_beyond⟩
  have G_sharing : Has P w K mg base 2 "sharing" ["lefts", "rights"] spSharing := ⟨_, fd_sharing, ok_sharing T G_groups_of G_is_beyond F_sharing, m_sharing, F_sharing.kp, b_sharing⟩
  have G_augmented := has_augmented (P := P) (w := w) (base := base) m_augmented F_augmented.kp b_augmented F_augmented 61
  have G_partners_of : Has P w K mg base 62 "partners_of" ["table"] spPartnersOf := ⟨_, fd_partners_of, ok_partners_of T G_augmented F_partners_of, m_partners_of, F_partners_of.kp, b_partners_of⟩
  have G_kinds_of : Has P w K mg base 63 "kinds_of" ["lefts", "rights"] spKindsOf := ⟨_, fd_kinds_of, ok_kinds_of G_sharing G_partners_of F_kinds_of, m_kinds_of, F_kinds_of.kp, b_kinds_of⟩
  have G_number_for : Has P w K mg base 64 "number_for" ["lefts", "rights"] spNumberFor := ⟨_, fd_number_for, ok_number_for T G_kinds_of F_number_for, m_number_for, F_number_for.kp, b_number_for⟩
  have G_least_kinds : Has P w K mg base 65 "least_kinds" ["lefts", "rights"] spLeastKinds := ⟨_, fd_least_kinds, ok_least_kinds G_need_rows G_number_for F_least_kinds, m_least_kinds, F_least_kinds.kp, b_least_kinds⟩
  have G_region_kinds : Has P w K mg base 66 "region_kinds" ["region"] spRegionKinds := ⟨_, fd_region_kinds, ok_region_kinds G_need_region G_rows_for G_number_for F_region_kinds, m_region_kinds, F_region_kinds.kp, b_region_kinds⟩
  have G_lane_by : Has P w K mg base 64 "lane_by" ["lefts", "rights"] spLaneBy := ⟨_, fd_lane_by, ok_lane_by T G_kinds_of F_lane_by, m_lane_by, F_lane_by.kp, b_lane_by⟩
  have G_lane_of : Has P w K mg base 65 "lane_of" ["region"] spLaneOf := ⟨_, fd_lane_of, ok_lane_of G_need_region G_rows_for G_lane_by F_lane_of, m_lane_of, F_lane_of.kp, b_lane_of⟩
  have G_kinds_in : Has P w K mg base 1 "kinds_in" ["lane"] spKindsIn := ⟨_, fd_kinds_in, ok_kinds_in T F_kinds_in, m_kinds_in, F_kinds_in.kp, b_kinds_in⟩
  have G_count_kinds : Has P w K mg base 4 "count_kinds" ["lane"] spCountKinds := ⟨_, fd_count_kinds, ok_count_kinds T G_need_lane G_kinds_in F_count_kinds, m_count_kinds, F_count_kinds.kp, b_count_kinds⟩
  have G_spare_kinds : Has P w K mg base 65 "spare_kinds" ["lane"] spSpareKinds := ⟨_, fd_spare_kinds, ok_spare_kinds T G_need_lane G_thresholds_of G_kinds_in G_number_for F_spare_kinds, m_spare_kinds, F_spare_kinds.kp, b_spare_kinds⟩
  have G_law_taken : Has P w K mg base 1 "_law_taken" ["_law_row", "_law_many"] (spTaken K) := ⟨_, fd_law_taken, ok_law_taken T F_law_taken, m_law_taken, F_law_taken.kp, b_law_taken⟩
  have G_law_pick : Has P w K mg base 2 "_law_pick" ["_law_row", "_law_things"] (spPick K) := ⟨_, fd_law_pick, ok_law_pick T G_law_taken F_law_pick, m_law_pick, F_law_pick.kp, b_law_pick⟩
  have G_law_alike : Has P w K mg base 1 "_law_alike" ["_law_found", "_law_due"] spAlike := ⟨_, fd_law_alike, ok_law_alike T F_law_alike, m_law_alike, F_law_alike.kp, b_law_alike⟩
  have G_law_region : Has P w K mg base 2 "_law_region" ["_law_row", "_law_wide", "_law_high"] (spLawRegion K) := ⟨_, fd_law_region, ok_law_region T G_law_taken F_law_region, m_law_region, F_law_region.kp, b_law_region⟩
  have G_law_lists : Has P w K mg base 1 "_law_lists" ["_law_many", "_law_most"] spLists := ⟨_, fd_law_lists, ok_law_lists T F_law_lists, m_law_lists, F_law_lists.kp, b_law_lists⟩
  have G_law_lane : Has P w K mg base 3 "_law_lane" ["_law_row", "_law_most"] (spLawLane K) := ⟨_, fd_law_lane, ok_law_lane T G_law_taken G_law_pick F_law_lane, m_law_lane, F_law_lane.kp, b_law_lane⟩
  exact ok_law T G_law_lane G_thresholds G_count_kinds G_spare_kinds G_least_kinds G_law_region G_lane_of G_region G_sides G_region_kinds G_law_lists G_region_by G_law_alike F_law
end Kl
open PySem PySem.W PySem.Calls PyProof.Rows
theorem PySem.Challenge.cw_keylanes_k29_whole_kinds_of_regions_holds : PySem.Challenge.rw_keylanes_k29_whole_kinds_of_regions.Holds := by
  w_on; o_law
  refine HandSHeadRun.head_any (r := OpenLaw.row PySem.Challenge.rw_keylanes_k29_whole_kinds_of_regions) (q := view (OpenLaw.row PySem.Challenge.rw_keylanes_k29_whole_kinds_of_regions).prog [57]) (H := Kl.hk) (ob := Kl.ob) (M := 4000) (loose := Kl.names) (d := HandSHeadRun.topDef (OpenLaw.row PySem.Challenge.rw_keylanes_k29_whole_kinds_of_regions).prog 57) (kwd := []) Kl.ob_eq
    (by kernel_rfl) (fun s => by kernel_rfl) Kl.run (by kernel_rfl) (by kernel_rfl) (by kernel_rfl) (by rfl) (by first | assumption | decide +kernel) (by decide +kernel) ⟨rfl, rfl, rfl, rfl, rfl, by decide +kernel⟩ ?hw ?hc
  case hw => w_witness2
  case hc =>
    refine L2.walk_ofE (l := PySem.Challenge.rw_keylanes_k29_whole_kinds_of_regions) (n := 63) (k := 67) (x := "_law_script") (CX := L2.CX0) rfl (by decide) (by kernel_rfl) ⟨rfl, by decide, by decide⟩ ?F (fun _ _ _ _ z => z)
    intro w mg fa h Y G hmg0
    obtain ⟨K, KX, c⟩ := Y
    have hmg : mg ("law" : PySem.Str) = some (.ref fa) := by
      have e : (HandSHeadRun.topDef (OpenLaw.row PySem.Challenge.rw_keylanes_k29_whole_kinds_of_regions).prog 57).name = ("law" : PySem.Str) := by kernel_rfl
      rw [← e]
      exact hmg0
    obtain ⟨fd, hb, hF⟩ := Kl.facts (P := (PySem.Challenge.rw_keylanes_k29_whole_kinds_of_regions).prog) (w := w) KX G hmg c
    exact ⟨K, fd, Kl.spLaw K, KX, hb, fun H a ns hl _ hS => ⟨a, ns, rfl, hS, fun _ => rfl⟩, hF⟩

