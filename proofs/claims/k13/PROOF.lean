import PyProof.Rows.All
import Wide.All
import OpenK.AllK
import Wide.FinOn
import HandS.SortOrd
import KE.SortData
import HandS.Base
import KE.KDictCopyH
import KE.KTupTabMore
import HandS.ForMost
import HandS.IsInst
import HandS.TupAny
import HandS.Flow
import KE.KeyNested
import HandS.Wide
import HandS.TupMul
import HandS.Deep
import HandS.Style
import HandS.TupLe
import HandS.Dict
import KE.KEqDict
import PyProof.P3In
import KE.KDictKeyed
import HandS.More
import HandS.ListItems
import HandS.DictTup
import KE.KDictItemsList
import HandS.Small
import HandS.Zip
import HandS.Rev
import HandS.ExcOwn
import HandS.ExcIs
import HandS.WordsExc
import HandS.TupSets
import HandS.SetTxt0
import HandS.NoneIn
import KE.GoesMore
import KE.GoesEnum
import PyProof.Draws
import PyProof.EnumMake
import PySem.Challenge.RW_nestviews_k13_papers
set_option Elab.async false
set_option linter.all false
set_option maxRecDepth 100000
set_option autoImplicit false
set_option maxHeartbeats 4000000
/-! NvOrd: data that can be told apart by <, place by place up to the first that differs; lists of such data sorted. -/
namespace Nv
open PySem PySem.W PySem.SeqAt PyProof.Rows
open PySem.AutoSeq1 (wpAny_loadPart')
open PySem.MeetsSeq PySem.MeetsSeq2 PySem.MeetsSeq3
mutual
/-- the two are alike up to the first place that differs, which can be told by < -/
def cmpb : PyData → PyData → Bool
  | .bool _, .bool _ => true
  | .int _, .int _ => true
  | .str _, .str _ => true
  | .tuple xs, .tuple ys => cmpbs xs ys
  | _, _ => false
def cmpbs : List PyData → List PyData → Bool
  | x :: xs, y :: ys => cmpb x y && (!PyData.eqv x y || cmpbs xs ys)
  | [], _ => true
  | _ :: _, [] => true
end
theorem cmpbs_cons {x y : PyData} {xs ys : List PyData} (h : cmpbs (x :: xs) (y :: ys) = true) : cmpb x y = true ∧ (PyData.eqv x y = true → cmpbs xs ys = true) := by
  rw [cmpbs, Bool.and_eq_true, Bool.or_eq_true] at h
  refine ⟨h.1, fun e => ?_⟩
  rcases h.2 with q | q
  · rw [e] at q; cases q
  · exact q
theorem cmpb_tup {xs : List PyData} {y : PyData} (h : cmpb (.tuple xs) y = true) : ∃ ys, y = .tuple ys ∧ cmpbs xs ys = true := by
  cases y with
  | tuple ys => exact ⟨ys, rfl, by simpa [cmpb] using h⟩
  | _ => exact absurd h (by simp [cmpb])
theorem cmpb_atom {x y : PyData} (hx : ∀ xs, x ≠ .tuple xs) (h : cmpb x y = true) : alike x y = true ∧ x ≠ .none := by
  cases x <;> cases y <;> simp_all [cmpb, alike]
abbrev lx := PyProof.Rows.lexLt itemOrd
mutual
theorem cmp_toks : ∀ (x y : PyData), cmpb x y = true → (PyData.eqv x y = true → keyToks x = keyToks y) ∧ (PyData.eqv x y = false → ∀ l m, lx (keyToks x ++ l) (keyToks y ++ m) = lx (keyToks x) (keyToks y))
  | .tuple xs, y, h => by
    obtain ⟨ys, rfl, h⟩ := cmpb_tup h
    have t := cmps_toks xs ys h
    simp only [keyToks, PyData.eqv]
    exact t
  | .none, y, h => toks_eqv _ _ (cmpb_atom (fun _ q => by cases q) h).1
  | .bool a, y, h => toks_eqv _ _ (cmpb_atom (fun _ q => by cases q) h).1
  | .int a, y, h => toks_eqv _ _ (cmpb_atom (fun _ q => by cases q) h).1
  | .str a, y, h => toks_eqv _ _ (cmpb_atom (fun _ q => by cases q) h).1
  | .list _, y, h => toks_eqv _ _ (cmpb_atom (fun _ q => by cases q) h).1
  | .dict _, y, h => toks_eqv _ _ (cmpb_atom (fun _ q => by cases q) h).1
theorem cmps_toks : ∀ (xs ys : List PyData), cmpbs xs ys = true → (PyData.eqvAll xs ys = true → keyToksAll xs = keyToksAll ys) ∧ (PyData.eqvAll xs ys = false → ∀ l m, lx (keyToksAll xs ++ l) (keyToksAll ys ++ m) = lx (keyToksAll xs) (keyToksAll ys))
  | [], ys, _ => toksAll_eqv [] ys (by simp [alikeAll])
  | x :: xs, [], _ => toksAll_eqv (x :: xs) [] (by simp [alikeAll])
  | x :: xs, y :: ys, h => by
    obtain ⟨h1, h2⟩ := cmpbs_cons h
    obtain ⟨a1, a2⟩ := cmp_toks x y h1
    rw [eqv_all_cons, toks_all_cons, toks_all_cons]
    cases hx : PyData.eqv x y with
    | true =>
      obtain ⟨b1, b2⟩ := cmps_toks xs ys (h2 hx)
      rw [a1 hx, Bool.true_and]
      refine ⟨fun e => by rw [b1 e], fun e l m => ?_⟩
      have g : ∀ a b : List (Int ⊕ List Nat), lx (.inl 1 :: (keyToks y ++ a)) (.inl 1 :: (keyToks y ++ b)) = lx a b := fun a b => (lex_self (O := itemOrd) _ _ _).trans (lex_pre _ _ _)
      simp only [List.cons_append, List.append_assoc]
      rw [g, g]
      exact b2 e l m
    | false =>
      rw [Bool.false_and]
      refine ⟨fun e => absurd e Bool.false_ne_true, fun _ l m => ?_⟩
      have g : ∀ a b : List (Int ⊕ List Nat), lx (.inl 1 :: (keyToks x ++ a)) (.inl 1 :: (keyToks y ++ b)) = lx (keyToks x) (keyToks y) := fun a b => (lex_self (O := itemOrd) _ _ _).trans (a2 hx _ _)
      simp only [List.cons_append, List.append_assoc]
      rw [g, g]
end
theorem lt_yes {x y : PyData} {xs ys : List PyData} (h : cmpb x y = true) (e : PyData.eqv x y = true) : lx (keyToksAll (x :: xs)) (keyToksAll (y :: ys)) = lx (keyToksAll xs) (keyToksAll ys) := by
  rw [toks_all_cons, toks_all_cons, (cmp_toks x y h).1 e]
  exact (lex_self (O := itemOrd) _ _ _).trans (lex_pre _ _ _)
theorem lt_no {x y : PyData} {xs ys : List PyData} (h : cmpb x y = true) (e : PyData.eqv x y = false) : lx (keyToksAll (x :: xs)) (keyToksAll (y :: ys)) = dataLt x y := by
  rw [toks_all_cons, toks_all_cons]
  exact (lex_self (O := itemOrd) _ _ _).trans ((cmp_toks x y h).2 e _ _)
theorem first_lx : ∀ (xs ys : List PyData), cmpbs xs ys = true →
    firstLt (pairEq xs ys) (fun j => dataLt (xs.getD j .none) (ys.getD j .none)) (decide (xs.length < ys.length)) (List.range (min xs.length ys.length)) = lx (keyToksAll xs) (keyToksAll ys)
  | [], ys, _ => firstLt_toks [] ys (by simp [alikeAll])
  | x :: xs, [], _ => firstLt_toks (x :: xs) [] (by simp [alikeAll])
  | x :: xs, y :: ys, h => by
    obtain ⟨h1, h2⟩ := cmpbs_cons h
    have em : min (x :: xs).length (y :: ys).length = min xs.length ys.length + 1 := by
      rw [List.length_cons, List.length_cons]; omega
    have ed : decide ((x :: xs).length < (y :: ys).length) = decide (xs.length < ys.length) := by
      rw [List.length_cons, List.length_cons]
      exact decide_eq_decide.mpr (by omega)
    rw [em, ed, List.range_succ_eq_map]
    cases hx : PyData.eqv x y with
    | true =>
      rw [firstLt_yes (show pairEq (x :: xs) (y :: ys) 0 = true from hx), firstLt_map, lt_yes h1 hx, ← first_lx xs ys (h2 hx)]
      rfl
    | false =>
      rw [firstLt_no (show pairEq (x :: xs) (y :: ys) 0 = false from hx), lt_no h1 hx]
      rfl
/-- tuples: what is asked of a place is asked only where all ahead are equal -/
theorem tuple_ltP (l b : Addr) (items items2 : Array Value) (n n2 : Nat) (dd dd2 : Option Addr) (sl sl2 : Array (Option Value)) (e r : Nat → Bool) :
    Meets (Builtin.«tuple.__lt__» ⟨[.ref l, .ref b], []⟩)
      (fun A R s => s.heap.get? l = some { cls := .type "tuple", dict := dd, data := .seq items n, slots := sl } ∧ s.heap.get? b = some { cls := .type "tuple", dict := dd2, data := .seq items2 n2, slots := sl2 } ∧
        (∀ j (h1 : j < items.size) (h2 : j < items2.size), (∀ k, k < j → e k = true) → EqAt A.in1 s items[j] items2[j] (e j)) ∧ (∀ j (h1 : j < items.size) (h2 : j < items2.size), (∀ k, k < j → e k = true) → e j = false → RcLt A.in1 s items[j] items2[j] (r j)) ∧
        R (.ok (.ret (.bool (firstLt e r (decide (items.size < items2.size)) (List.range (min items.size items2.size)))))) s) :=
  .of_wp fun prog w A R s h => by
    obtain ⟨hp, g, d, tk, os⟩ := s; obtain ⟨hl, hb, he, hr, h⟩ := h
    have f2 := AutoSeq1.sub_tuple_tuple
    have hZ : (items.toList.zip items2.toList).length = min items.size items2.size := by simp
    wp_walk using wpAny_loadPart' hl, wpAny_loadPart' hb, wpAny_forIn_list _ (fun rest b s' => b.1 = none ∧ s' = ⟨hp, g, d, tk, os⟩ ∧ ∃ i, rest = (items.toList.zip items2.toList).drop i ∧ (∀ k, k < i → e k = true) ∧
      R (.ok (.ret (.bool (firstLt e r (decide (items.size < items2.size)) ((List.range (min items.size items2.size)).drop i))))) ⟨hp, g, d, tk, os⟩) _
    case turn =>
      rintro ⟨y, x⟩ rest b s' ⟨hb', rfl, i, hz, hpre, hR⟩
      have hlt : i < (items.toList.zip items2.toList).length := by
        rcases Nat.lt_or_ge i (items.toList.zip items2.toList).length with h' | h'
        · exact h'
        · rw [List.drop_of_length_le h'] at hz; cases hz
      have hm : i < min items.size items2.size := hZ ▸ hlt
      have h1 : i < items.size := Nat.lt_of_lt_of_le hm (Nat.min_le_left _ _)
      have h2 : i < items2.size := Nat.lt_of_lt_of_le hm (Nat.min_le_right _ _)
      rw [List.drop_eq_getElem_cons hlt] at hz
      injection hz with hyx hrest
      have hy : y = items[i] := by have := congrArg Prod.fst hyx; simpa using this
      have hx : x = items2[i] := by have := congrArg Prod.snd hyx; simpa using this
      subst hy hx
      have hd : (List.range (min items.size items2.size)).drop i = i :: (List.range (min items.size items2.size)).drop (i + 1) := by simp [List.drop_eq_getElem_cons, hm]
      rw [hd] at hR
      refine wpAny_bind (he i h1 h2 hpre prog w _ _ ?_)
      cases hy : e i with
      | true =>
        rw [firstLt_yes hy] at hR
        wp_walk
        refine ⟨rfl, rfl, i + 1, hrest, fun k hk => ?_, hR⟩
        rcases Nat.lt_succ_iff_lt_or_eq.mp hk with q | q
        · exact hpre k q
        · rw [q]; exact hy
      | false =>
        rw [firstLt_no hy] at hR
        have hri := hr i h1 h2 hpre hy prog w
        wp_walk using hri
        exact ⟨_, rfl, by simpa using hR⟩
    case fin =>
      rintro ⟨b1, b2⟩ s' ⟨hb', rfl, i, hz, hpre, hR⟩
      simp only at hb'
      subst hb'
      have hge : min items.size items2.size ≤ i := by
        rcases Nat.lt_or_ge i (items.toList.zip items2.toList).length with h' | h'
        · rw [List.drop_eq_getElem_cons h'] at hz; cases hz
        · exact hZ ▸ h'
      rw [List.drop_of_length_le (by simpa using hge)] at hR
      wp_walk
      exact ⟨_, rfl, by simpa [Builtin.Tuple.tupleCompareSizes, firstLt] using hR⟩
    case h =>
      exact ⟨rfl, rfl, 0, rfl, fun k hk => absurd hk (Nat.not_lt_zero _), by simpa using h⟩
section
variable {A : Around} {s : Shared}
theorem RcLt.tupP {l b : Addr} {items items2 : Array Value} {e r : Nat → Bool} (hl : s.heap.IsTuple l items) (hb : s.heap.IsTuple b items2) (hu : A.units < cLine)
    (he : ∀ j (h1 : j < items.size) (h2 : j < items2.size), (∀ k, k < j → e k = true) → EqAt A.in1 s items[j] items2[j] (e j)) (hr : ∀ j (h1 : j < items.size) (h2 : j < items2.size), (∀ k, k < j → e k = true) → e j = false → RcLt A.in1 s items[j] items2[j] (r j)) :
    RcLt A s (.ref l) (.ref b) (firstLt e r (decide (items.size < items2.size)) (List.range (min items.size items2.size))) := fun prog w E Q h => by
  obtain ⟨⟨cls, dd, data, sl⟩, ho, hc, n, hd⟩ := id hl
  obtain ⟨⟨cls2, dd2, data2, sl2⟩, ho2, hc2, n2, hd2⟩ := id hb
  simp only at hc hd hc2 hd2
  subst hc hd hc2 hd2
  exact richCompare_meets_room (op := .Lt) ⟨_, ho, rfl⟩ ⟨_, ho2, rfl⟩ F.slot_tuple_lt F.entry_tuple_lt (F.args_tuple_lt_2 _ _) (tuple_ltP l b items items2 n n2 dd dd2 sl sl2 e r)
    ⟨ho, ho2, he, hr, show Value.bool (firstLt e r (decide (items.size < items2.size)) (List.range (min items.size items2.size))) ≠ Value.notImplemented ∧ Q (.bool (firstLt e r (decide (items.size < items2.size)) (List.range (min items.size items2.size)))) s from ⟨(fun x => nomatch x), h⟩⟩ hu
theorem call_ltP {prog : Program} {w : World} {E : Value → Shared → Prop} {Q : Value → Shared → Prop} {l b : Addr} {items items2 : Array Value} {e r : Nat → Bool} (hl : s.heap.IsTuple l items) (hb : s.heap.IsTuple b items2)
    (he : ∀ j (h1 : j < items.size) (h2 : j < items2.size), (∀ k, k < j → e k = true) → EqAt A.in1 s items[j] items2[j] (e j)) (hr : ∀ j (h1 : j < items.size) (h2 : j < items2.size), (∀ k, k < j → e k = true) → e j = false → RcLt A.in1 s items[j] items2[j] (r j))
    (h : Q (.bool (firstLt e r (decide (items.size < items2.size)) (List.range (min items.size items2.size)))) s) : wpAny (model prog w) A (call (.builtin "tuple.__lt__") [.ref l, .ref b]) Q E s := by
  obtain ⟨⟨cls, dd, data, sl⟩, ho, hc, n, hd⟩ := id hl
  obtain ⟨⟨cls2, dd2, data2, sl2⟩, ho2, hc2, n2, hd2⟩ := id hb
  simp only at hc hd hc2 hd2
  subst hc hd hc2 hd2
  exact call_meets F.slot_tuple_lt ⟨_, ho, rfl⟩ F.entry_tuple_lt (F.args_tuple_lt_2 _ _) (tuple_ltP l b items items2 n n2 dd dd2 sl sl2 e r) ⟨ho, ho2, he, hr, h⟩
end
mutual
theorem rc_cmp : ∀ (dx dy : PyData) (A : Around) (s : Shared) (a b : Value) (as bs : List Addr), Reads s.heap a dx as → Reads s.heap b dy bs → cmpb dx dy = true → dx.canLay0 = true → dy.canLay0 = true → A.units + min dx.depth dy.depth < cLine → RcLt A s a b (dataLt dx dy)
  | .tuple xs, dy, A, s, a, b, as, bs, ra, rb, h, lx', ly, hu => by
    obtain ⟨ys, rfl, h'⟩ := cmpb_tup h
    have la : PyData.canLayAll0 xs = true := by simpa [PyData.canLay0] using lx'
    have lb : PyData.canLayAll0 ys = true := by simpa [PyData.canLay0] using ly
    cases ra with
    | @tuple l o vs n _ as₁ h1 h2 h3 h4 =>
      cases rb with
      | @tuple l' o' vs' n' _ bs₁ k1 k2 k3 k4 =>
        have n1 : vs.size = xs.length := by simpa using ReadsAll.length _ _ _ h4
        have n2 : vs'.size = ys.length := by simpa using ReadsAll.length _ _ _ k4
        rw [dataLt_tuple]
        show RcLt A s (.ref l) (.ref l') (lx (keyToksAll xs) (keyToksAll ys))
        rw [← first_lx xs ys h', ← n1, ← n2]
        refine RcLt.tupP ⟨_, h1, h2, _, h3⟩ ⟨_, k1, k2, _, k3⟩ (room_here hu) (fun j j1 j2 _ => ?_) fun j j1 j2 hp hj => ?_
        · have := eqAt_readsAll xs ys A.in1 s vs.toList vs'.toList _ _ h4 k4 la lb (room_in hu) j (by simpa using j1) (by simpa using j2)
          simpa using this
        · have := rc_cmps xs ys A.in1 s vs.toList vs'.toList _ _ h4 k4 h' la lb (room_in hu) j (by simpa using j1) (by simpa using j2) hp hj
          simpa using this
  | .none, dy, A, s, a, b, as, bs, ra, rb, h, _, _, hu => rcLt_alike _ _ A s a b as bs ra rb (cmpb_atom (fun _ q => by cases q) h).1 (cmpb_atom (fun _ q => by cases q) h).2 hu
  | .bool _, dy, A, s, a, b, as, bs, ra, rb, h, _, _, hu => rcLt_alike _ _ A s a b as bs ra rb (cmpb_atom (fun _ q => by cases q) h).1 (cmpb_atom (fun _ q => by cases q) h).2 hu
  | .int _, dy, A, s, a, b, as, bs, ra, rb, h, _, _, hu => rcLt_alike _ _ A s a b as bs ra rb (cmpb_atom (fun _ q => by cases q) h).1 (cmpb_atom (fun _ q => by cases q) h).2 hu
  | .str _, dy, A, s, a, b, as, bs, ra, rb, h, _, _, hu => rcLt_alike _ _ A s a b as bs ra rb (cmpb_atom (fun _ q => by cases q) h).1 (cmpb_atom (fun _ q => by cases q) h).2 hu
  | .list _, dy, A, s, a, b, as, bs, ra, rb, h, _, _, hu => rcLt_alike _ _ A s a b as bs ra rb (cmpb_atom (fun _ q => by cases q) h).1 (cmpb_atom (fun _ q => by cases q) h).2 hu
  | .dict _, dy, A, s, a, b, as, bs, ra, rb, h, _, _, hu => rcLt_alike _ _ A s a b as bs ra rb (cmpb_atom (fun _ q => by cases q) h).1 (cmpb_atom (fun _ q => by cases q) h).2 hu
theorem rc_cmps : ∀ (xs ys : List PyData) (A : Around) (s : Shared) (vs ws : List Value) (as bs : List Addr), ReadsAll s.heap vs xs as → ReadsAll s.heap ws ys bs → cmpbs xs ys = true → PyData.canLayAll0 xs = true → PyData.canLayAll0 ys = true →
    A.units + min (PyData.depthAll xs) (PyData.depthAll ys) < cLine → ∀ j (h1 : j < vs.length) (h2 : j < ws.length), (∀ k, k < j → pairEq xs ys k = true) → pairEq xs ys j = false → RcLt A s vs[j] ws[j] (dataLt (xs.getD j .none) (ys.getD j .none))
  | [], _, _, _, _, _, _, _, ra, _, _, _, _, _, j, h1, _, _, _ => by cases ra; exact absurd h1 (Nat.not_lt_zero _)
  | _ :: _, [], _, _, _, _, _, _, _, rb, _, _, _, _, j, _, h2, _, _ => by cases rb; exact absurd h2 (Nat.not_lt_zero _)
  | x :: xs, y :: ys, A, s, _, _, _, _, ra, rb, h, la, lb, hu, j, h1, h2, hp, hj => by
    obtain ⟨g1, g2⟩ := cmpbs_cons h
    have la' : x.canLay0 = true ∧ PyData.canLayAll0 xs = true := by simpa [PyData.canLayAll0] using la
    have lb' : y.canLay0 = true ∧ PyData.canLayAll0 ys = true := by simpa [PyData.canLayAll0] using lb
    cases ra with
    | cons r rs =>
      cases rb with
      | cons r' rs' =>
        cases j with
        | zero => exact rc_cmp x y A s _ _ _ _ r r' g1 la'.1 lb'.1 (room_head hu)
        | succ j => exact rc_cmps xs ys A s _ _ _ _ rs rs' (g2 (hp 0 (Nat.succ_pos _))) la'.2 lb'.2 (room_tail hu) j (Nat.lt_of_succ_lt_succ h1) (Nat.lt_of_succ_lt_succ h2) (fun k hk => hp (k + 1) (Nat.succ_lt_succ hk)) hj
end
/-! as sorting compares -/
section
variable {prog : Program} {w : World} {A : Around} {E : Value → Shared → Prop} {s : Shared}
theorem one_cmp {f : Bool} {dx dy : PyData} {a b : Value} {as bs : List Addr} {Q : Bool → Shared → Prop} (ra : Reads s.heap a dx as) (rb : Reads s.heap b dy bs) (h : cmpb dx dy = true) (lx' : dx.canLay0 = true) (ly : dy.canLay0 = true)
    (hu : A.units + min dx.depth dy.depth < cLine) (hq : Q (dataLt dx dy) s) : wpAny (model prog w) A (oneLt' f a b) Q E s := by
  cases f with
  | false =>
    rw [oneLt'_eq]
    simp only [Bool.false_eq_true, if_false]
    exact wpAny_bind (rc_cmp dx dy A s a b as bs ra rb h lx' ly hu prog w E _ (wpAny_truthy_bool hq))
  | true =>
    by_cases ht : ∃ xs, dx = .tuple xs
    · obtain ⟨xs, rfl⟩ := ht
      obtain ⟨ys, rfl, h'⟩ := cmpb_tup h
      have la : PyData.canLayAll0 xs = true := by simpa [PyData.canLay0] using lx'
      have lb : PyData.canLayAll0 ys = true := by simpa [PyData.canLay0] using ly
      cases ra with
      | @tuple l o vs n _ as₁ h1 h2 h3 h4 =>
        cases rb with
        | @tuple l' o' vs' n' _ bs₁ k1 k2 k3 k4 =>
          have n1 : vs.size = xs.length := by simpa using ReadsAll.length _ _ _ h4
          have n2 : vs'.size = ys.length := by simpa using ReadsAll.length _ _ _ k4
          rw [dataLt_tuple] at hq
          have hq : Q (lx (keyToksAll xs) (keyToksAll ys)) s := hq
          rw [← first_lx xs ys h', ← n1, ← n2] at hq
          rw [oneLt'_eq]
          simp only [if_true]
          refine wpAny_bind (wpAny_cRoomFor (room_here hu) ?_)
          refine wpAny_bind (wpAny_callSpecialIfBound?_slot (T := "tuple") ⟨_, h1, h2⟩ F.slot_tuple_lt (call_ltP (e := pairEq xs ys) (r := fun j => dataLt (xs.getD j .none) (ys.getD j .none)) ⟨_, h1, h2, _, h3⟩ ⟨_, k1, k2, _, k3⟩ (fun j j1 j2 _ => ?_) (fun j j1 j2 hp hj => ?_) ?_))
          · have := eqAt_readsAll xs ys A.in1 s vs.toList vs'.toList _ _ h4 k4 la lb (room_in hu) j (by simpa using j1) (by simpa using j2)
            simpa using this
          · have := rc_cmps xs ys A.in1 s vs.toList vs'.toList _ _ h4 k4 h' la lb (room_in hu) j (by simpa using j1) (by simpa using j2) hp hj
            simpa using this
          · exact wpAny_truthy_bool hq
    · obtain ⟨a1, a2⟩ := cmpb_atom (fun xs q => ht ⟨xs, q⟩) h
      exact oneLt_alike (fun _ xs q => ht ⟨xs, q⟩) ra rb a1 a2 hu hq
theorem lex_cmp {b fin : Bool} {Q : Bool → Shared → Prop} : ∀ (xs ys : List PyData) (i : Nat) (vs ws : List Value) (as bs : List Addr), ReadsAll s.heap vs xs as → ReadsAll s.heap ws ys bs → cmpbs xs ys = true → PyData.canLayAll0 xs = true → PyData.canLayAll0 ys = true →
    A.units + min (PyData.depthAll xs) (PyData.depthAll ys) < cLine → fin = decide (xs.length < ys.length) → Q (lx (keyToksAll xs) (keyToksAll ys)) s → KatLex prog w A b fin Q (vs.zip ws) i s
  | [], ys, i, vs, ws, as, bs, ra, rb, _, _, _, hu, hf, hq => katLex_alike [] ys i vs ws as bs ra rb (by simp [alikeAll]) hu (fun _ _ x r t q => by cases q) hf hq
  | x :: xs, [], i, vs, ws, as, bs, ra, rb, _, _, _, hu, hf, hq => by
    cases rb
    have e : fin = false := by rw [hf]; exact decide_eq_false (Nat.not_lt_zero _)
    subst e
    rw [toks_all_cons] at hq
    simp only [keyToksAll] at hq
    rw [show lx (Sum.inl 1 :: (keyToks x ++ keyToksAll xs)) [Sum.inl 0] = itemLt (.inl 1) (.inl 0) from lex_diff (O := itemOrd) (by simp)] at hq
    rw [List.zip_nil_right]
    exact kat_nil (by simpa [itemLt] using hq)
  | x :: xs, y :: ys, i, _, _, _, _, ra, rb, h, la, lb, hu, hf, hq => by
    obtain ⟨g1, g2⟩ := cmpbs_cons h
    have la' : x.canLay0 = true ∧ PyData.canLayAll0 xs = true := by simpa [PyData.canLayAll0] using la
    have lb' : y.canLay0 = true ∧ PyData.canLayAll0 ys = true := by simpa [PyData.canLayAll0] using lb
    have hf' : fin = decide (xs.length < ys.length) := by
      rw [hf]
      simp only [List.length_cons, Nat.add_lt_add_iff_right]
    cases ra with
    | cons r rs =>
      cases rb with
      | cons r' rs' =>
        rw [List.zip_cons_cons]
        refine kat_cons (eqAt_reads x y A s _ _ _ _ r r' la'.1 lb'.1 (room_head hu) prog w _ _ ?_)
        cases hx : PyData.eqv x y with
        | true =>
          rw [lt_yes g1 hx] at hq
          exact kat_yes (lex_cmp xs ys (i + 1) _ _ _ _ rs rs' (g2 hx) la'.2 lb'.2 (room_tail hu) hf' hq)
        | false =>
          rw [lt_no g1 hx] at hq
          exact kat_no (one_cmp r r' g1 la'.1 lb'.1 (room_head hu) hq)
end
/-! data that read in one way alone -/
mutual
def pureP : PyData → Bool
  | .bool _ => true
  | .int _ => true
  | .str x => PyData.strOk x
  | .tuple xs => purePs xs
  | _ => false
def purePs : List PyData → Bool
  | [] => true
  | x :: xs => pureP x && purePs xs
end
theorem pureP_tup {xs : List PyData} (h : pureP (.tuple xs) = true) : purePs xs = true := by simpa [pureP] using h
theorem purePs_cons {x : PyData} {xs : List PyData} (h : purePs (x :: xs) = true) : pureP x = true ∧ purePs xs = true := by
  rw [purePs, Bool.and_eq_true] at h; exact h
mutual
theorem pure_uni {h : Heap} : ∀ (d d' : PyData) (v : Value) (as as' : List Addr), pureP d = true → Reads h v d as → Reads h v d' as' → d = d'
  | .none, _, _, _, _, q, _, _ => by simp [pureP] at q
  | .bool _, _, _, _, _, _, r, r' => by cases r; cases r'; rfl
  | .int _, _, _, _, _, _, r, r' => by cases r; cases r'; rfl
  | .str _, _, _, _, _, _, r, r' => by cases r; cases r'; rfl
  | .list _, _, _, _, _, q, _, _ => by simp [pureP] at q
  | .dict _, _, _, _, _, q, _, _ => by simp [pureP] at q
  | .tuple xs, d', _, _, _, q, r, r' => by
    cases r with
    | tuple h1 h2 h3 h4 =>
      cases r' with
      | tuple k1 k2 k3 k4 =>
        rw [h1] at k1; cases k1
        rw [h3] at k3; cases k3
        rw [pures_uni xs _ _ _ _ (pureP_tup q) h4 k4]
      | list k1 k2 k3 k4 =>
        rw [h1] at k1; cases k1
        rw [h2] at k2; injection k2 with k2; exact absurd k2 (by decide)
      | dict k1 k2 k3 k4 k5 =>
        rw [h1] at k1; cases k1
        rw [h2] at k2; injection k2 with k2; exact absurd k2 (by decide)
theorem pures_uni {h : Heap} : ∀ (xs ys : List PyData) (vs : List Value) (as as' : List Addr), purePs xs = true → ReadsAll h vs xs as → ReadsAll h vs ys as' → xs = ys
  | [], _, _, _, _, _, r, r' => by cases r; cases r'; rfl
  | x :: xs, [], _, _, _, _, r, r' => by cases r'; cases r
  | x :: xs, y :: ys, _, _, _, q, r, r' => by
    cases r with
    | cons h1 h2 =>
      cases r' with
      | cons k1 k2 => rw [pure_uni x y _ _ _ (purePs_cons q).1 h1 k1, pures_uni xs ys _ _ _ (purePs_cons q).2 h2 k2]
end
mutual
theorem pure_keep {h h' : Heap} {a : Addr} (k : ∀ b o, b ≠ a → h.get? b = some o → h'.get? b = some o) (ha : ∀ o, h.get? a = some o → o.cls = .type "list") : ∀ (d : PyData) (v : Value) (as : List Addr), pureP d = true → Reads h v d as → Reads h' v d as
  | .none, _, _, q, _ => by simp [pureP] at q
  | .list _, _, _, q, _ => by simp [pureP] at q
  | .dict _, _, _, q, _ => by simp [pureP] at q
  | .bool _, _, _, _, r => by cases r; exact .bool _
  | .int _, _, _, _, r => by cases r; exact .int _ _
  | .str _, _, _, _, r => by cases r; exact .str _ _
  | .tuple xs, _, _, q, r => by
    cases r with
    | @tuple b o vs n _ _ h1 h2 h3 h4 =>
      have hb : b ≠ a := by
        rintro rfl
        have z := ha o h1
        rw [h2] at z
        injection z with z
        exact absurd z (by decide)
      exact .tuple (k _ _ hb h1) h2 h3 (pures_keep k ha xs _ _ (pureP_tup q) h4)
theorem pures_keep {h h' : Heap} {a : Addr} (k : ∀ b o, b ≠ a → h.get? b = some o → h'.get? b = some o) (ha : ∀ o, h.get? a = some o → o.cls = .type "list") : ∀ (ds : List PyData) (vs : List Value) (as : List Addr), purePs ds = true → ReadsAll h vs ds as → ReadsAll h' vs ds as
  | [], _, _, _, r => by cases r; exact .nil
  | d :: ds, _, _, q, r => by
    cases r with
    | cons h1 h2 => exact .cons (pure_keep k ha d _ _ (purePs_cons q).1 h1) (pures_keep k ha ds _ _ (purePs_cons q).2 h2)
end
mutual
theorem pure_lay : ∀ (d : PyData), pureP d = true → d.canLay0 = true
  | .none, q => by simp [pureP] at q
  | .list _, q => by simp [pureP] at q
  | .dict _, q => by simp [pureP] at q
  | .bool _, _ => by simp [PyData.canLay0]
  | .int _, _ => by simp [PyData.canLay0]
  | .str x, q => by
    have q : PyData.strOk x = true := by simpa [pureP] using q
    simpa [PyData.canLay0] using q
  | .tuple xs, q => by
    have := pures_lay xs (pureP_tup q)
    simpa [PyData.canLay0] using this
theorem pures_lay : ∀ (ds : List PyData), purePs ds = true → PyData.canLayAll0 ds = true
  | [], _ => by simp [PyData.canLayAll0]
  | d :: ds, q => by
    have h1 := pure_lay d (purePs_cons q).1
    have h2 := pures_lay ds (purePs_cons q).2
    simp [PyData.canLayAll0, h1, h2]
end
mutual
theorem cmp_eqv : ∀ (x y : PyData), cmpb x y = true → PyData.eqv x y = true → x = y
  | .tuple xs, y, h, e => by
    obtain ⟨ys, rfl, h'⟩ := cmpb_tup h
    rw [PyData.eqv] at e
    rw [cmps_eqv xs ys h' e]
  | .bool a, y, h, e => by cases y <;> simp_all [cmpb, PyData.eqv]
  | .int a, y, h, e => by cases y <;> simp_all [cmpb, PyData.eqv]
  | .str a, y, h, e => by cases y <;> simp_all [cmpb, PyData.eqv]
  | .none, y, h, e => by cases y <;> simp_all [cmpb]
  | .list _, y, h, e => by cases y <;> simp_all [cmpb]
  | .dict _, y, h, e => by cases y <;> simp_all [cmpb]
theorem cmps_eqv : ∀ (xs ys : List PyData), cmpbs xs ys = true → PyData.eqvAll xs ys = true → xs = ys
  | [], [], _, _ => rfl
  | [], y :: ys, _, e => by simp [PyData.eqvAll] at e
  | x :: xs, [], _, e => by simp [PyData.eqvAll] at e
  | x :: xs, y :: ys, h, e => by
    obtain ⟨h1, h2⟩ := cmpbs_cons h
    rw [eqv_all_cons, Bool.and_eq_true] at e
    rw [cmp_eqv x y h1 e.1, cmps_eqv xs ys (h2 e.1) e.2]
end
/-- neither is less: they are the same -/
theorem lt_anti {x y : PyData} (h : cmpb x y = true) (h1 : dataLt x y = false) (h2 : dataLt y x = false) : x = y := by
  have e : keyToks x = keyToks y := lex_total (O := itemOrd) _ _ h1 h2
  refine cmp_eqv x y h ?_
  cases q : PyData.eqv x y with
  | true => rfl
  | false =>
    have z := (cmp_toks x y h).2 q [] [.inl 0]
    rw [e] at z
    have z1 : lx (keyToks y ++ []) (keyToks y ++ [.inl 0]) = true := (lex_pre _ _ _).trans rfl
    have z2 : lx (keyToks y) (keyToks y) = false := lex_irrefl _
    rw [z1, z2] at z
    cases z
end Nv

set_option Elab.async false
set_option linter.all false
set_option maxRecDepth 100000
set_option autoImplicit false
set_option maxHeartbeats 4000000
/-! NvOrd2: lists of such data sorted. -/
namespace Nv
open PySem PySem.W PySem.SeqAt PyProof.Rows SrtO
/-- a value's row of signs -/
noncomputable def tkV (h : Heap) (v : Value) : List (Int ⊕ List Nat) := open Classical in if q : ∃ d, pureP d = true ∧ ∃ as, Reads h v d as then keyToks q.choose else []
theorem tkV_of {h : Heap} {v : Value} {d : PyData} {as : List Addr} (p : pureP d = true) (r : Reads h v d as) : tkV h v = keyToks d := by
  have q : ∃ d, pureP d = true ∧ ∃ as, Reads h v d as := ⟨d, p, as, r⟩
  have e : tkV h v = keyToks q.choose := by
    show (open Classical in if q : ∃ d, pureP d = true ∧ ∃ as, Reads h v d as then keyToks q.choose else []) = _
    rw [dif_pos q]
  obtain ⟨p', as', r'⟩ := q.choose_spec
  rw [e, pure_uni _ _ _ _ _ p r r']
noncomputable def ltV (h : Heap) (v u : Value) : Bool := lx (tkV h v) (tkV h u)
theorem ltV_swo (h : Heap) : Swo (ltV h) := by
  refine ⟨fun x y e => ?_, fun x y z h1 h2 => ?_⟩
  · cases q : ltV h y x with
    | false => rfl
    | true =>
      have z : lx (tkV h x) (tkV h x) = true := lex_trans (O := itemOrd) _ _ _ e q
      rw [show lx (tkV h x) (tkV h x) = false from lex_irrefl _] at z
      cases z
  · cases q : ltV h z x with
    | false => rfl
    | true =>
      rcases lex_negTrans (O := itemOrd) (tkV h z) (tkV h y) (tkV h x) q with g | g
      · have g : ltV h z y = true := g
        rw [h2] at g; cases g
      · have g : ltV h y x = true := g
        rw [h1] at g; cases g
abbrev RdE (h : Heap) : List Value → List PyData → Prop := EachIs fun v d => ∃ as, Reads h v d as
theorem dt_cmp {x y : PyData} (h : cmpb x y = true) : dataType x = dataType y := by
  cases x <;> cases y <;> first | rfl | exact absurd h (by simp [cmpb])
theorem each_keep {h h' : Heap} {a : Addr} {vs : List Value} {ds : List PyData} (k : ∀ b o, b ≠ a → h.get? b = some o → h'.get? b = some o) (ha : ∀ o, h.get? a = some o → o.cls = .type "list") (hp : ∀ d ∈ ds, pureP d = true) (e : RdE h vs ds) : RdE h' vs ds :=
  (each_mem e).mono fun v d ⟨⟨as, r⟩, hd⟩ => ⟨as, pure_keep k ha d v as (hp d hd) r⟩
section
variable {prog : Program} {w : World} {A : Around} {s : Shared} {vs : List Value} {ds : List PyData}
theorem firsts_any : ∀ {vs : List Value} {ds : List PyData}, RdE s.heap vs ds → (∀ d ∈ ds, ∃ xs, d = .tuple xs) → ∃ l : List (Option Value), (∀ (E : Value → Shared → Prop) (Q : List (Option Value) → Shared → Prop), Q l s → wpAny (model prog w) A (vs.mapM firstOfTuple') Q E s) ∧ (l.all (·.isSome) = true → ∀ d ∈ ds, ∃ x r, d = .tuple (x :: r))
  | _, _, .nil, _ => ⟨[], fun E Q h => by rw [List.mapM_nil]; exact wpAny_pure h, fun _ d hd => by cases hd⟩
  | v :: vs, d :: ds, .cons ⟨as, r⟩ t, ht => by
    obtain ⟨l, h1, h2⟩ := firsts_any t fun d hd => ht d (.tail _ hd)
    obtain ⟨xs, rfl⟩ := ht d (.head _)
    cases r with
    | @tuple a o its n _ _ ho hc hdt hr =>
      refine ⟨its[0]? :: l, fun E Q h => ?_, fun ha d hd => ?_⟩
      · rw [List.mapM_cons]
        refine wpAny_bind ?_
        rw [kas_first_eq]
        refine wpAny_bind (Looks.here (show Looks (model prog w) s.heap (typeOf (.ref a)) o.cls from (Looks.ld ho).andThen .now) ?_)
        rw [hc, if_neg (by first | decide | simp)]
        refine wpAny_bind (listItems_at ho hdt (wpAny_pure ?_))
        exact wpAny_bind (h1 E (fun bs s' => wpAny (model prog w) A (pure (its[0]? :: bs)) Q E s') (wpAny_pure h))
      · rw [List.all_cons, Bool.and_eq_true] at ha
        rcases List.mem_cons.mp hd with e | hd
        · rw [e]
          cases xs with
          | cons x r => exact ⟨x, r, rfl⟩
          | nil =>
            have hn : its.toList = [] := by
              cases q : its.toList with
              | nil => rfl
              | cons y z => rw [q] at hr; cases hr
            have hi : its = #[] := by rw [← Array.toArray_toList (xs := its), hn]
            rw [hi] at ha
            exact absurd ha.1 (by simp)
        · exact h2 ha.2 d hd
/-- their kind is found, and any two compare -/
theorem kind_pure (e : RdE s.heap vs ds) (h2 : 2 ≤ vs.length) (hp : ∀ d ∈ ds, pureP d = true) (hc : ∀ d ∈ ds, ∀ d' ∈ ds, cmpb d d' = true) (hu : ∀ d ∈ ds, A.units + d.depth < cLine) :
    ∃ κ, (∀ (Q : SortKind → Shared → Prop) (E : Value → Shared → Prop), Q κ s → wpAny (model prog w) A (keyKind' vs.toArray) Q E s) ∧ Cmp prog w A s κ (fun p => p.1 ∈ vs) (lt2 (ltV s.heap)) := by
  have room : ∀ {d d' : PyData}, d ∈ ds → A.units + min d.depth d'.depth < cLine := fun {d d'} hd => Nat.lt_of_le_of_lt (Nat.add_le_add_left (Nat.min_le_left _ _) _) (hu d hd)
  have one : ∀ (f : Bool) (p q : Keyed), p.1 ∈ vs → q.1 ∈ vs → wpAny (model prog w) A (oneLt' f p.1 q.1) (fun r s' => s' = s ∧ r = lt2 (ltV s.heap) p q) (fun _ _ => False) s := fun f p q mp mq => by
    obtain ⟨d, hd, as, r⟩ := e.left _ mp
    obtain ⟨d', hd', as', r'⟩ := e.left _ mq
    refine one_cmp r r' (hc d hd d' hd') (pure_lay _ (hp d hd)) (pure_lay _ (hp d' hd')) (room hd) ⟨rfl, ?_⟩
    show dataLt d d' = lx (tkV s.heap p.1) (tkV s.heap q.1)
    rw [tkV_of (hp d hd) r, tkV_of (hp d' hd') r']
    rfl
  cases ds with
  | nil => cases e; exact absurd h2 (by simp)
  | cons d0 dr =>
    by_cases ht : ∃ xs, d0 = .tuple xs
    · obtain ⟨xs0, rfl⟩ := ht
      have htup : ∀ d ∈ PyData.tuple xs0 :: dr, ∃ xs, d = .tuple xs := fun d hd => by
        obtain ⟨ys, q, _⟩ := cmpb_tup (hc _ (.head _) d hd)
        exact ⟨ys, q⟩
      by_cases hne : ∀ d ∈ PyData.tuple xs0 :: dr, ∃ x r, d = .tuple (x :: r)
      · obtain ⟨x0, r0, q0⟩ := hne _ (.head _)
        obtain ⟨fs, t1, t2, t3⟩ := each_katTups e hne
        refine ⟨tuples' (dataType x0 != Value.type "tuple"), fun Q E hq => ?_, ?_⟩
        · refine kat_kind (T := dataType x0) t1 (by omega) (fun f hf => ?_) (beq_self_eq_true _) hq
          obtain ⟨x, r, as, m1, m2⟩ := t3 f hf
          have c := hc _ m1 _ (.head _)
          rw [q0] at c
          obtain ⟨ys, e1, c⟩ := cmpb_tup c
          injection e1 with e1
          rw [← e1] at c
          rw [← dt_cmp (cmpbs_cons c).1]
          exact looks_reads m2
        · intro p q mp mq
          obtain ⟨d, hd, as, r⟩ := e.left _ mp
          obtain ⟨d', hd', as', r'⟩ := e.left _ mq
          have k1 := tkV_of (hp d hd) r
          have k2 := tkV_of (hp d' hd') r'
          have hdd := hc d hd d' hd'
          have hroom := room (d' := d') hd
          have l1 := pure_lay _ (hp d hd)
          have l2 := pure_lay _ (hp d' hd')
          obtain ⟨xs, rfl⟩ := htup d hd
          obtain ⟨ys, rfl⟩ := htup d' hd'
          obtain ⟨ys', e1, hdd⟩ := cmpb_tup hdd
          injection e1 with e1
          subst e1
          generalize hv1 : p.1 = v1 at *
          generalize hv2 : q.1 = v2 at *
          cases r with
          | @tuple l o zs n _ _ h1 h2' h3 h4 =>
            cases r' with
            | @tuple l' o' zs' n' _ _ k1' k2' k3 k4 =>
              have n1 : zs.size = xs.length := by simpa using ReadsAll.length _ _ _ h4
              have n2 : zs'.size = ys.length := by simpa using ReadsAll.length _ _ _ k4
              refine kat_lt h1 h3 k1' k3 (lex_cmp xs ys 0 _ _ _ _ h4 k4 hdd (by simpa [PyData.canLay0] using l1) (by simpa [PyData.canLay0] using l2) (by have q := room_in hroom; omega) (by rw [n1, n2]) ⟨rfl, ?_⟩)
              show lx (keyToksAll xs) (keyToksAll ys) = lx (tkV s.heap p.1) (tkV s.heap q.1)
              rw [hv1, hv2, k1, k2]
              rfl
      · obtain ⟨l, h1, h3⟩ := firsts_any (prog := prog) (w := w) (A := A) e htup
        have hl : l.toArray.all (·.isSome) = false := by
          cases q : l.toArray.all (·.isSome) with
          | false => rfl
          | true => exact absurd (h3 (by rw [← List.all_toArray]; exact q)) hne
        have hT : ∀ v ∈ vs, Looks (model prog w) s.heap (typeOf v) (Value.type "tuple") := fun v hv => by
          obtain ⟨d, hd, as, r⟩ := e.left _ hv
          obtain ⟨xs, rfl⟩ := htup d hd
          exact looks_reads r
        by_cases hf : (l.toArray[0]?.bind id).isSome = true
        · refine ⟨general', fun Q E hq => ?_, fun p q mp mq => one false p q mp mq⟩
          rw [kat_kind_eq, List.mapM_toArray, map_eq_pure_bind]
          refine wpAny_bind (wpAny_bind (h1 E _ (wpAny_pure ?_)))
          rw [if_neg (by rw [hl]; exact Bool.false_ne_true), if_pos hf]
          exact wpAny_pure hq
        · refine ⟨oneType', fun Q E hq => ?_, fun p q mp mq => one true p q mp mq⟩
          rw [kat_kind_eq, List.mapM_toArray, map_eq_pure_bind]
          refine wpAny_bind (wpAny_bind (h1 E _ (wpAny_pure ?_)))
          rw [if_neg (by rw [hl]; exact Bool.false_ne_true), if_neg hf]
          rw [oneTypeOnly'_eq, List.mapM_toArray, map_eq_pure_bind]
          refine wpAny_bind (wpAny_bind (wpAny_bind (kas_mapM (r := Value.type "tuple") _ (fun v hv Q' hq => (hT v hv).here hq) (wpAny_pure ?_))))
          obtain ⟨v1, vr, rfl⟩ : ∃ v1 vr, vs = v1 :: vr := by
            match vs, h2 with
            | v1 :: vr, _ => exact ⟨v1, vr, rfl⟩
          have hall : ((List.map (fun _ => Value.type "tuple") (v1 :: vr)).toArray.all fun x => x == Value.type "tuple") = true := by
            simp only [List.all_toArray, List.all_map, List.all_eq_true]
            intro _ _
            exact beq_self_eq_true _
          have h0 : (List.map (fun _ => Value.type "tuple") (v1 :: vr)).toArray[0]? = some (Value.type "tuple") := by simp
          rw [h0]
          simp only [hall, if_true]
          exact wpAny_pure (wpAny_pure hq)
    · have hT : ∀ v ∈ vs, Looks (model prog w) s.heap (typeOf v) (dataType d0) := fun v hv => by
        obtain ⟨d, hd, as, r⟩ := e.left _ hv
        rw [dt_cmp (hc d0 (.head _) d hd)]
        exact looks_reads r
      exact ⟨oneType', fun Q E hq => kas_kind h2 hT (dataType_other fun xs q => ht ⟨xs, q⟩) (beq_self_eq_true _) hq, fun p q mp mq => one true p q mp mq⟩
theorem sortable_pure {a : Addr} (e : RdE s.heap vs ds) (h2 : 2 ≤ vs.length) (hp : ∀ d ∈ ds, pureP d = true) (hc : ∀ d ∈ ds, ∀ d' ∈ ds, cmpb d d' = true) (hu : ∀ d ∈ ds, A.units + d.depth < cLine) (ha : ∀ o, s.heap.get? a = some o → o.cls = .type "list") :
    SortableO prog w A s a vs (ltV s.heap) := by
  intro h' keep
  have e' : RdE h' vs ds := each_keep keep ha hp e
  obtain ⟨κ, k1, k2⟩ := kind_pure (prog := prog) (w := w) (A := A) (s := { s with heap := h' }) e' h2 hp hc hu
  refine ⟨κ, k1, fun p q mp mq => ?_⟩
  have ek : ∀ v ∈ vs, tkV h' v = tkV s.heap v := fun v hv => by
    obtain ⟨d, hd, as, r⟩ := e.left _ hv
    rw [tkV_of (hp d hd) r, tkV_of (hp d hd) (pure_keep keep ha d v as (hp d hd) r)]
  have z := k2 p q mp mq
  have ez : lt2 (ltV h') p q = lt2 (ltV s.heap) p q := by
    show lx (tkV h' p.1) (tkV h' q.1) = lx (tkV s.heap p.1) (tkV s.heap q.1)
    rw [ek _ mp, ek _ mq]
  rw [← ez]
  exact z
/-- xs.sort() -/
theorem sort_pure {E : Value → Shared → Prop} {a : Addr} {n : Nat} {Q : Value → Shared → Prop} (ho : s.heap.get? a = some (seqObj "list" vs.toArray n)) (e : RdE s.heap vs ds) (hz : vs.length ≤ sizeLine) (hp : ∀ d ∈ ds, pureP d = true) (hc : ∀ d ∈ ds, ∀ d' ∈ ds, cmpb d d' = true) (hu : ∀ d ∈ ds, A.units + 1 + d.depth < cLine)
    (h : ∀ out : List Value, Srtd (ltV s.heap) out → out.Perm vs → Q .none { s with heap := sortedHeap s.heap a vs out.toArray }) : wpAny (model prog w) A (call (.builtin "list.sort") [.ref a]) Q E s := by
  refine wpAny_call_entry slot_list_sort ⟨_, ho, rfl⟩ entry_list_sort (list_sort_ord (ltV_swo _) ho hz (fun h2 => sortable_pure e h2 hp hc (fun d hd => hu d hd) fun o q => ?_) fun out hs hb => ⟨_, rfl, h out hs hb.perm⟩) (args_list_sort _)
  rw [ho] at q
  cases q
  rfl
end
end Nv

set_option Elab.async false
set_option linter.all false
set_option maxRecDepth 100000
set_option autoImplicit false
/-! NvBool: dicts whose keys are truths. -/
namespace Nv
open PySem PySem.W
def boolIs (b : Bool) : Value → Bool
  | .bool c => b == c
  | _ => false
theorem boolIs_eq {b : Bool} {v : Value} (h : boolIs b v = true) : v = .bool b := by
  cases v with
  | bool c => cases b <;> cases c <;> first | rfl | cases h
  | _ => cases h
def bNum (b : Bool) : Leaf := .num (if b = true then 1 else 0)
theorem bNum_inj {a b : Bool} : (bNum a = bNum b) = (a = b) := by cases a <;> cases b <;> simp [bNum]
theorem bool_leaf {P : Program} {w : World} {b : Bool} {v : Value} (h : boolIs b v = true) : (leafKind P w).is (bNum b) v = true := by
  rw [boolIs_eq h]
  cases b
  · rfl
  · rfl
/-- truths carried by value -/
def boolKind (P : Program) (w : World) : KeyKind P w Bool where
  is := boolIs
  hash := fun b => (leafKind P w).hash (bNum b)
  inj := fun v a b ha hb => by
    have e := (boolIs_eq ha).symm.trans (boolIs_eq hb)
    injection e
  byValue := fun k v h => (leafKind P w).byValue (bNum k) v (bool_leaf h)
  pyHash := fun hv h => (leafKind P w).pyHash (bool_leaf hv) h
  eqBool := fun {A E s a b u v Q} hu hv h => by
    refine (leafKind P w).eqBool (bool_leaf hu) (bool_leaf hv) ?_
    rw [show decide (bNum a = bNum b) = decide (a = b) from decide_eq_decide.mpr (by rw [bNum_inj])]
    exact h
  «strs» := fun k x t v h => by cases h
theorem bool_prog {P P' : Program} {w : World} {h : Heap} {a : Addr} {xs : List (Bool × Value)} (x : h.DictOf (boolKind P w) a xs) : h.DictOf (boolKind P' w) a xs := by
  obtain ⟨o, es, ep, h1, h2, h3, h4, h5, h6⟩ := x
  refine ⟨o, es, ep, h1, h2, h3, h4, ?_, h6⟩
  have : ∀ {l : List DictEntry} {ys : List (Bool × Value)}, Pairs (boolKind P w) l ys → Pairs (boolKind P' w) l ys := by
    intro l ys p
    induction p with
    | nil => exact .nil
    | cons q1 q2 _ ih => exact .cons q1 q2 ih
  exact this h5
end Nv

set_option Elab.async false
set_option linter.all false
set_option maxRecDepth 100000
/-! NvDef: a small interpreter over plain data. -/
namespace Nv
open PySem L2

/-- plain data; obj: a place of the store -/
inductive D where
  | non | bl (b : Bool) | int (i : Int) | str (x : Str) | tup (xs : List D) | lf (xs : List D) | ld (ks vs : List D) | obj (i : Nat)
/-- what stands in the store: a list, a dict (lf, ld above: a list, a dict that never changes) -/
inductive Ob where
  | lst (xs : List D) | dct (kvs : List (D × D))
abbrev Loc := List (Option D)
abbrev Sto := List Ob
inductive Res (α : Type) where
  | ok (a : α) (s : Sto) | ex (x : D) (s : Sto) | no
def Res.bind {α β : Type} (r : Res α) (f : α → Sto → Res β) : Res β :=
  match r with
  | .ok a s => f a s
  | .ex x s => .ex x s
  | .no => .no
@[simp] theorem bind_ok {α β : Type} (a : α) (s : Sto) (f : α → Sto → Res β) : (Res.ok a s).bind f = f a s := rfl
@[simp] theorem bind_ex {α β : Type} (x : D) (s : Sto) (f : α → Sto → Res β) : (Res.ex x s : Res α).bind f = .ex x s := rfl
@[simp] theorem bind_no {α β : Type} (f : α → Sto → Res β) : (Res.no : Res α).bind f = .no := rfl
abbrev M (α : Type) := Loc → Sto → Res α
def ofO {α : Type} (o : Option α) (s : Sto) : Res α :=
  match o with
  | some a => .ok a s
  | none => .no
@[simp] theorem ofO_some {α : Type} (a : α) (s : Sto) : ofO (some a) s = .ok a s := rfl
@[simp] theorem ofO_none {α : Type} (s : Sto) : ofO (none : Option α) s = .no := rfl

/-- a result that isn't in the store yet: a value, a fresh list, a fresh dict -/
inductive RD where
  | d (x : D) | l (xs : List D) | m (kvs : List (D × D))
/-- what is walked: the items, and the list's place where it may change -/
structure Its where
  ds : List D
  src : Option (Nat × List D)

/-! ### values -/
mutual
def pyW (g : Nat → Option PyData) : D → Option PyData
  | .non => some .none
  | .bl b => some (.bool b)
  | .int i => some (.int i)
  | .str x => some (.str x)
  | .tup xs => (pyWs g xs).map .tuple
  | .lf xs => (pyWs g xs).map .list
  | .ld _ _ => none
  | .obj i => g i
def pyWs (g : Nat → Option PyData) : List D → Option (List PyData)
  | [] => some []
  | x :: r => (pyW g x).bind fun p => (pyWs g r).map (p :: ·)
end
def pyN (s : Sto) : Nat → D → Option PyData
  | 0, x => pyW (fun _ => none) x
  | n + 1, x => pyW (fun i => match s[i]? with
      | some (.lst xs) => (xs.mapM (pyN s n)).map .list
      | _ => none) x
def pyR (s : Sto) : RD → Option PyData
  | .d x => pyN s 3 x
  | .l xs => (xs.mapM (pyN s 2)).map .list
  | .m _ => none
/-- a tuple of anything against () -/
def eqE : RD → RD → Option Bool
  | .d (.tup xs), .d (.tup []) => some xs.isEmpty
  | _, _ => none
def eqR (s : Sto) (a b : RD) : Option Bool :=
  match pyR s a, pyR s b with
  | some x, some y => if SeqAt.shaped x = true ∧ SeqAt.shaped y = true then some (PyData.eqv x y) else eqE a b
  | _, _ => eqE a b
/-! dicts -/
mutual
def keyOf : D → Option NestedKey
  | .non => some .none
  | .bl b => some (.num (if b = true then 1 else 0))
  | .int i => some (.num i)
  | .str x => some (.text x)
  | .tup xs => (keysOf xs).map .tup
  | .lf _ => none
  | .ld _ _ => none
  | .obj _ => none
def keysOf : List D → Option (List NestedKey)
  | [] => some []
  | x :: r => (keyOf x).bind fun k => (keysOf r).map (k :: ·)
end
def tupK : NestedKey → Bool
  | .tup ks => decide (NestedKey.depth (.tup ks) ≤ 8)
  | _ => false
def keyK : D → Option Key
  | .int i => some (.inl i)
  | .str x => some (.inr x)
  | _ => none
def keyD : Key → D
  | .inl i => .int i
  | .inr x => .str x
def dlk (kvs : List (D × D)) (k : Key) : Option D := (kvs.find? fun p => decide (keyK p.1 = some k)).map (·.2)
def dput (kvs : List (D × D)) (k : Key) (v : D) : List (D × D) := if (kvs.any fun p => decide (keyK p.1 = some k)) = true then kvs.map fun p => if keyK p.1 = some k then (p.1, v) else p else kvs ++ [(keyD k, v)]
/-- all keys are texts or whole numbers -/
def dK (kvs : List (D × D)) : Bool := kvs.all fun p => (keyK p.1).isSome
/-- there are keys, and all are tuples -/
def keyN (d : D) : Option NestedKey := (keyOf d).bind fun k => if tupK k = true then some k else none
def dN (kvs : List (D × D)) : Bool := !kvs.isEmpty && kvs.all fun p => (keyN p.1).isSome
/-- what a dict of tuples holds at a key; with one more -/
def nlk (kvs : List (D × D)) (k : NestedKey) : Option D := (kvs.find? fun p => decide (keyN p.1 = some k)).map (·.2)
def nput (kvs : List (D × D)) (k : NestedKey) (kd v : D) : List (D × D) := if (nlk kvs k).isSome = true then kvs.map fun p => if keyN p.1 = some k then (p.1, v) else p else kvs ++ [(kd, v)]
/-- a dict in the store that is empty or has tuples for keys -/
def nAt (s : Sto) : RD → Option (List (D × D))
  | .d (.obj i) => match s[i]? with
    | some (.dct kvs) => if kvs.isEmpty = true ∨ dN kvs = true then some kvs else none
    | _ => none
  | _ => none
/-- there are keys, and all are truths -/
def keyB : D → Option Bool
  | .bl b => some b
  | _ => none
def dB (kvs : List (D × D)) : Bool := !kvs.isEmpty && kvs.all fun p => (keyB p.1).isSome
def blk (kvs : List (D × D)) (b : Bool) : Option D := (kvs.find? fun p => decide (keyB p.1 = some b)).map (·.2)
def bput (kvs : List (D × D)) (b : Bool) (v : D) : List (D × D) := if (kvs.any fun p => decide (keyB p.1 = some b)) = true then kvs.map fun p => if keyB p.1 = some b then (p.1, v) else p else kvs ++ [(.bl b, v)]
/-- a dict in the store that is empty or has truths for keys -/
def bAt (s : Sto) : RD → Option (List (D × D))
  | .d (.obj i) => match s[i]? with
    | some (.dct kvs) => if kvs.isEmpty = true ∨ dB kvs = true then some kvs else none
    | _ => none
  | _ => none
def anyD (s : Sto) : RD → Option (List (D × D))
  | .m kvs => some kvs
  | .d (.ld ks vs) => if ks.length = vs.length then some (ks.zip vs) else none
  | .d (.obj i) => match s[i]? with
    | some (.dct kvs) => some kvs
    | _ => none
  | _ => none
def dctAt (s : Sto) (a : RD) : Option (List (D × D)) := (anyD s a).bind fun kvs => if dK kvs = true then some kvs else none
def keyR : RD → Option Key
  | .d x => keyK x
  | _ => none
def lstAt (s : Sto) (i : Nat) : Option (List D) :=
  match s[i]? with
  | some (.lst xs) => some xs
  | _ => none
/-- a list's items -/
def asL (s : Sto) : RD → Option (List D)
  | .l xs => some xs
  | .d (.lf xs) => some xs
  | .d (.obj i) => lstAt s i
  | _ => none
/-- .. of a list that may change -/
def asM (s : Sto) : RD → Option (List D)
  | .l xs => some xs
  | .d (.obj i) => lstAt s i
  | _ => none
/-- a list's or tuple's items -/
def asQ (s : Sto) : RD → Option (List D)
  | .l xs => some xs
  | .d (.lf xs) => some xs
  | .d (.obj i) => lstAt s i
  | .d (.tup xs) => some xs
  | _ => none
def truthR (s : Sto) : RD → Option Bool
  | .l xs => some (!xs.isEmpty)
  | .d .non => some false
  | .d (.bl b) => some b
  | .d (.int i) => some (i != 0)
  | .d (.str x) => if x.length ≤ sizeLine then some ((x.length : Int) != 0) else none
  | .d (.tup xs) => some (!xs.isEmpty)
  | .d (.lf xs) => some (!xs.isEmpty)
  | .m kvs => if dK kvs = true then some (!kvs.isEmpty) else none
  | .d (.ld _ _) => none
  | .d (.obj i) => match dctAt s (.d (.obj i)) with
    | some kvs => some (!kvs.isEmpty)
    | none => (lstAt s i).map fun xs => !xs.isEmpty
def signsD (x : Str) : List D := x.cps.toList.map fun c => .str ⟨#[c]⟩
def itsR (s : Sto) : RD → Option Its
  | .l xs => some ⟨xs, none⟩
  | .d (.tup xs) => some ⟨xs, none⟩
  | .d (.lf xs) => some ⟨xs, none⟩
  | .d (.ld ks _) => some ⟨ks, none⟩
  | .d (.str x) => some ⟨signsD x, none⟩
  | .d (.obj i) => match s[i]? with
    | some (.lst xs) => some ⟨xs, some (i, xs)⟩
    | _ => none
  | _ => none

/-! ### operators -/
inductive Bop where
  | add | sub | mul | fdiv | mod | pow
  deriving DecidableEq
def Bop.op : Bop → Operator
  | .add => .Add | .sub => .Sub | .mul => .Mult | .fdiv => .FloorDiv | .mod => .Mod | .pow => .Pow
def catR (xs ys : List D) (k : List D → RD) : Option RD := if xs.length + ys.length ≤ sizeLine then some (k (xs ++ ys)) else none
open Classical in
noncomputable def binI (o : Bop) (i j : Int) : Option Int :=
  match o with
  | .add => some (i + j)
  | .sub => some (i - j)
  | .mul => if CMul i j ∨ CMulW i j then some (i * j) else none
  | .fdiv => if CDivN i j ∨ CDivW i j then some (i.fdiv j) else none
  | .mod => if j ≠ 0 then some (i.fmod j) else none
  | .pow => if CPow i j then some (i ^ j.toNat) else none
noncomputable def binR (o : Bop) (s : Sto) (a b : RD) : Option RD :=
  match a, b with
  | .d (.int i), .d (.int j) => (binI o i j).map fun k => .d (.int k)
  | .d (.str x), .d (.str y) => if o = .add ∧ x.length + y.length ≤ sizeLine then some (.d (.str (x ++ y))) else none
  | .d (.tup xs), .d (.tup ys) => if o = .add then catR xs ys fun zs => .d (.tup zs) else none
  | .d (.tup xs), .d (.int k) => if o = .mul ∧ xs ≠ [] ∧ 0 ≤ k ∧ k ≤ 1000 ∧ xs.length ≤ 1000 then some (.d (.tup (List.replicate k.toNat xs).flatten)) else none
  | a, b => match asL s a, asL s b with
    | some xs, some ys => if o = .add then catR xs ys .l else none
    | _, _ => none
inductive Cop where
  | eq | ne | lt | le | gt | ge | is | isn | inn | nin | deq | dne
  deriving DecidableEq
def Cop.op : Cop → CmpOp
  | .eq => .Eq | .ne => .NotEq | .lt => .Lt | .le => .LtE | .gt => .Gt | .ge => .GtE | .is => .Is | .isn => .IsNot | .inn => .In | .nin => .NotIn | .deq => .Eq | .dne => .NotEq
def strIn (x y : Str) : Bool := !(Builtin.Str.occurrences y x 0 y.length 1).isEmpty
def inR (s : Sto) (a b : RD) : Option Bool :=
  match a, b with
  | .d (.str x), .d (.str y) => some (strIn x y)
  | a, b => match (asQ s b).bind fun ys => ys.mapM (pyN s 2), pyR s a with
    | some qs, some x => if SeqAt.shaped x = true ∧ SeqAt.shaped (.list qs) = true then some (qs.any fun z => PyData.eqv z x) else none
    | _, _ => none
def hasR (s : Sto) (a b : RD) : Option Bool :=
  match dctAt s b with
  | some kvs => (keyR a).map fun k => (dlk kvs k).isSome
  | none => inR s a b
def ltR (a b : RD) : Option Bool :=
  match a, b with
  | .d (.int i), .d (.int j) => some (decide (i < j))
  | .d (.str x), .d (.str y) => some (decide (x.cps.toList < y.cps.toList))
  | _, _ => none
def leR (a b : RD) : Option Bool :=
  match a, b with
  | .d (.int i), .d (.int j) => some (decide (i ≤ j))
  | .d (.str x), .d (.str y) => some (!decide (y.cps.toList < x.cps.toList))
  | _, _ => none
def isR (a b : RD) : Option Bool :=
  match a, b with
  | .d x, .d .non => some (match x with | .non => true | _ => false)
  | .l _, .d .non => some false
  | .d (.bl x), .d (.bl y) => some (decide (x = y))
  | _, _ => none
/-- == of two dicts with the same keys in the same order -/
def deqR (s : Sto) (a b : RD) : Option Bool :=
  match dctAt s a, dctAt s b with
  | some ka, some kb => match (ka.map (·.2)).mapM (pyN s 3), (kb.map (·.2)).mapM (pyN s 3) with
    | some ps, some qs => if ka.map (fun p => keyK p.1) = kb.map (fun p => keyK p.1) ∧ SeqAt.shaped (.list ps) = true ∧ SeqAt.shaped (.list qs) = true then some (PyData.eqvAll ps qs) else none
    | _, _ => none
  | _, _ => none
def cmpR (o : Cop) (s : Sto) (a b : RD) : Option Bool :=
  match o with
  | .eq => eqR s a b
  | .ne => (eqR s a b).map (!·)
  | .lt => ltR a b
  | .gt => ltR b a
  | .le => leR a b
  | .ge => leR b a
  | .is => isR a b
  | .isn => (isR a b).map (!·)
  | .inn => hasR s a b
  | .nin => (hasR s a b).map (!·)
  | .deq => deqR s a b
  | .dne => (deqR s a b).map (!·)

/-! ### built-ins -/
inductive Ty where
  | str | int | bool | tuple | list | dict
  deriving DecidableEq
def Ty.name : Ty → String
  | .str => "str" | .int => "int" | .bool => "bool" | .tuple => "tuple" | .list => "list" | .dict => "dict"
def isinR (s : Sto) (t : Ty) : RD → Option Bool
  | .l _ => some (t = .list)
  | .d .non => some false
  | .d (.bl _) => some (t = .bool ∨ t = .int)
  | .d (.int _) => some (t = .int)
  | .d (.str _) => some (t = .str)
  | .d (.tup _) => some (t = .tuple)
  | .d (.lf _) => some (t = .list)
  | .m kvs => if dK kvs = true then some (decide (t = .dict)) else none
  | .d (.ld _ _) => some (decide (t = .dict))
  | .d (.obj i) => match dctAt s (.d (.obj i)) with
    | some _ => some (decide (t = .dict))
    | none => (lstAt s i).map fun _ => decide (t = .list)
inductive B1 where
  | len | tuple | list | all | any | sum | int | abs | sorted | dict
  deriving DecidableEq
def B1.name : B1 → String
  | .len => "len" | .tuple => "tuple" | .list => "list" | .all => "all" | .any => "any" | .sum => "sum" | .int => "int" | .abs => "abs" | .sorted => "sorted" | .dict => "dict"
def blsOf : List D → Option (List Bool)
  | [] => some []
  | .bl b :: r => (blsOf r).map (b :: ·)
  | _ :: _ => none
def intsOf : List D → Option (List Int)
  | [] => some []
  | .int b :: r => (intsOf r).map (b :: ·)
  | _ :: _ => none
/-! sets that are asked at once -/
def uniq {α : Type} [DecidableEq α] : List α → List α
  | [] => []
  | x :: r => if x ∈ r then uniq r else x :: uniq r
def strsOf : List D → Option (List Str)
  | [] => some []
  | .str x :: r => (strsOf r).map (x :: ·)
  | _ :: _ => none
def leS (a b : Str) : Bool := decide (a.cps.toList ≤ b.cps.toList)
/-! the order of data -/
def pyD (d : D) : PyData := (pyW (fun _ => none) d).getD .none
def leD (a b : D) : Bool := !(PySem.W.dataLt (pyD b) (pyD a))
def srtOk (ps : List PyData) : Bool := ps.all pureP && (ps.all fun p => ps.all fun q => cmpb p q) && ps.all (fun p => decide (p.depth ≤ 60)) && decide (ps.length ≤ 1000000)
def srtD (ds : List D) : Option (List D) := (pyWs (fun _ => none) ds).bind fun ps => if srtOk ps = true then some (ds.mergeSort leD) else none
def b1R (f : B1) (s : Sto) (a : RD) : Option RD :=
  match f with
  | .len => match a with
    | .d (.str x) => if x.length ≤ sizeLine then some (.d (.int x.length)) else none
    | a => match dctAt s a with
      | some kvs => some (.d (.int kvs.length))
      | none => (asQ s a).map fun xs => .d (.int xs.length)
  | .tuple => (asQ s a).map fun xs => .d (.tup xs)
  | .list => match dctAt s a with
    | some kvs => some (.l (kvs.map (·.1)))
    | none => (asQ s a).map .l
  | .all => ((asL s a).bind blsOf).map fun bs => .d (.bl (bs.all id))
  | .any => ((asL s a).bind blsOf).map fun bs => .d (.bl (bs.any id))
  | .sum => ((asL s a).bind intsOf).map fun bs => .d (.int bs.sum)
  | .int => match a with
    | .d (.int i) => some (.d (.int i))
    | .d (.bl b) => some (.d (.int (if b then 1 else 0)))
    | _ => none
  | .abs => match a with
    | .d (.int i) => some (.d (.int (if i < 0 then -i else i)))
    | _ => none
  | .sorted => match anyD s a with
    | some kvs => match strsOf (kvs.map (·.1)) with
      | some ss => if ss.length ≤ 1000 then some (.l ((ss.mergeSort leS).map .str)) else none
      | none => (srtD (kvs.map (·.1))).map .l
    | none => (asL s a).bind fun ds => match strsOf ds with
      | some ss => if ss.length < 64 then some (.l ((ss.mergeSort leS).map .str)) else none
      | none => (srtD ds).map .l
  | .dict => (dctAt s a).map .m
/-- sorted(d.items()): keys that are texts -/
def siR0 (s : Sto) (x : D) : Option RD :=
  (dctAt s (.d x)).bind fun kvs => (strsOf (kvs.map (·.1))).map fun ks => .l (((ks.zip (kvs.map (·.2))).mergeSort fun a b => leS a.1 b.1).map fun e => .tup [.str e.1, e.2])
/-- .. keys of any kind, values that can be told apart by < -/
def siR (s : Sto) (x : D) : Option RD :=
  match siR0 s x with
  | some r => some r
  | none => (anyD s (.d x)).bind fun kvs => (srtD (kvs.map fun e => D.tup [e.1, e.2])).map .l
inductive FS where
  | sortset | lenset
  deriving DecidableEq
def FS.name : FS → String
  | .sortset => "sorted" | .lenset => "len"
def fsR (f : FS) (s : Sto) (x : RD) : Option RD :=
  (asL s x).bind fun ds => if ds.length < 77 then match f with
    | .sortset => (strsOf ds).map fun ss => .l (((uniq ss).mergeSort leS).map .str)
    | .lenset => match strsOf ds with
      | some ss => some (.d (.int (uniq ss).length))
      | none => (keysOf ds).bind fun ks => if ks.all tupK = true then some (.d (.int (uniq ks).length)) else none
    else none
def small62 (i : Int) : Prop := -(2 ^ 62) ≤ i ∧ i < 2 ^ 62
instance (i : Int) : Decidable (small62 i) := by unfold small62; infer_instance
def upTo (lo : Int) : Nat → List D
  | 0 => []
  | n + 1 => .int lo :: upTo (lo + 1) n
/-- lo, lo + c, .. -/
def stepsOf (lo c : Int) : Nat → List D
  | 0 => []
  | n + 1 => .int lo :: stepsOf (lo + c) c n
def rng3R (a b c : RD) : Option Its :=
  match a, b, c with
  | .d (.int i), .d (.int j), .d (.int k) => if k ≠ 0 ∧ k.natAbs < 1073741824 ∧ Builtin.Range.small i j k = true then some ⟨stepsOf i k (Builtin.Range.rangeSize i j k).toNat, none⟩ else none
  | _, _, _ => none
/-- things that are only walked -/
inductive I1 where
  | range | reversed | enumerate
  deriving DecidableEq
def I1.name : I1 → String
  | .range => "range" | .reversed => "reversed" | .enumerate => "enumerate"
def numbered : Nat → List D → List D
  | _, [] => []
  | k, x :: r => .tup [.int k, x] :: numbered (k + 1) r
/-- a list's place where it may change -/
def srcR (s : Sto) : RD → Option (Nat × List D)
  | .d (.obj i) => (lstAt s i).map fun xs => (i, xs)
  | _ => none
def i1R (f : I1) (s : Sto) (a : RD) : Option Its :=
  match f with
  | .range => match a with
    | .d (.int j) => if small62 j then some ⟨upTo 0 j.toNat, none⟩ else none
    | _ => none
  | .reversed => (asQ s a).map fun xs => ⟨xs.reverse, srcR s a⟩
  | .enumerate => match a with
    | .d (.tup xs) => some ⟨numbered 0 xs, none⟩
    | a => (asL s a).map fun xs => ⟨numbered 0 xs, srcR s a⟩
inductive B2 where
  | max | min
  deriving DecidableEq
def B2.name : B2 → String
  | .max => "max" | .min => "min"
def b2R (f : B2) (s : Sto) (a b : RD) : Option RD :=
  match f, a, b with
  | .max, .d (.int i), .d (.int j) => some (.d (.int (if j > i then j else i)))
  | .min, .d (.int i), .d (.int j) => some (.d (.int (if j < i then j else i)))
  | _, _, _ => none
inductive I2 where
  | range | zip
  deriving DecidableEq
def I2.name : I2 → String
  | .range => "range" | .zip => "zip"
def zipD : List D → List D → List D
  | x :: r, y :: q => .tup [x, y] :: zipD r q
  | _, _ => []
def i2R (f : I2) (s : Sto) (a b : RD) : Option Its :=
  match f with
  | .range => match a, b with
    | .d (.int i), .d (.int j) => if small62 i ∧ small62 j then some ⟨upTo i (j - i).toNat, none⟩ else none
    | _, _ => none
  | .zip => match asQ s a, asQ s b, srcR s a, srcR s b with
    | some xs, some ys, none, q => some ⟨zipD xs ys, q⟩
    | some xs, some ys, some q, none => some ⟨zipD xs ys, some q⟩
    | _, _, _, _ => none
def ixR0 (s : Sto) (a b : RD) : Option RD :=
  match b with
  | .d (.int i) => match a with
    | .d (.str x) => if x.length ≤ sizeLine then (atI x.cps.toList i).map fun c => .d (.str ⟨#[c]⟩) else none
    | a => (asQ s a).bind fun xs => (atI xs i).map .d
  | _ => none
def ixR1 (s : Sto) (a b : RD) : Option RD :=
  match dctAt s a with
  | some kvs => (keyR b).bind fun k => (dlk kvs k).map .d
  | none => ixR0 s a b
/-- d[t] -/
def ixN1 (s : Sto) (a : RD) (k : D) : Option RD := (nAt s a).bind fun kvs => (keyN k).bind fun k => (nlk kvs k).map .d
def ixB1 (s : Sto) (a : RD) (b : Bool) : Option RD := (bAt s a).bind fun kvs => (blk kvs b).map .d
def ixR (s : Sto) (a b : RD) : Option RD :=
  match b with
  | .d (.tup ks) => ixN1 s a (.tup ks)
  | .d (.bl b) => ixB1 s a b
  | b => ixR1 s a b
def cutD (xs : List D) (lo hi : Option Int) : List D := (xs.drop (HT.sIx xs.length 0 lo)).take (HT.sIx xs.length xs.length hi - HT.sIx xs.length 0 lo)
def slR (s : Sto) (a : RD) (lo hi : Option Int) : Option RD :=
  match a with
  | .d (.str x) => if x.length ≤ sizeLine then some (.d (.str (cutS x lo hi))) else none
  | .d (.tup xs) => some (.d (.tup (cutD xs lo hi)))
  | a => (asL s a).map fun xs => .l (cutD xs lo hi)
/-- d.get(k, x) -/
def getR0 (s : Sto) (o k x : RD) : Option RD :=
  match dctAt s o, keyR k, x with
  | some kvs, some k, .d z => some (.d ((dlk kvs k).getD z))
  | _, _, _ => none
def getR (s : Sto) (o k x : RD) : Option RD :=
  match k, x with
  | .d (.tup ks), .d z => (nAt s o).bind fun kvs => (keyN (.tup ks)).map fun k => .d ((nlk kvs k).getD z)
  | .d (.bl b), .d z => (bAt s o).map fun kvs => .d ((blk kvs b).getD z)
  | k, x => getR0 s o k x
/-- a dict that .get is asked of -/
def dgOk (s : Sto) (o : RD) : Bool := (dctAt s o).isSome || (nAt s o).isSome || (bAt s o).isSome
/-- d.get(k) -/
def getR1 (s : Sto) (o k : RD) : Option RD :=
  match k with
  | .d (.tup ks) => (nAt s o).bind fun kvs => (keyN (.tup ks)).map fun k => .d ((nlk kvs k).getD .non)
  | k => (dctAt s o).bind fun kvs => (keyR k).map fun k => .d ((dlk kvs k).getD .non)
/-- methods of built-in things -/
inductive M1 where
  | append | extend
  deriving DecidableEq
def M1.name : M1 → String
  | .append => "append" | .extend => "extend"
def m1R (m : M1) (o : D) (a : RD) (s : Sto) : Res RD :=
  match o with
  | .obj i => match m, s[i]?, a with
    | .append, some (.lst xs), .d x => if xs.length < sizeLine then .ok (.d .non) (s.set i (.lst (xs ++ [x]))) else .no
    | .extend, some (.lst xs), a => match asM s a with
      | some ys => if xs.length + ys.length ≤ sizeLine then .ok (.d .non) (s.set i (.lst (xs ++ ys))) else .no
      | none => .no
    | _, _, _ => .no
  | _ => .no
inductive M0 where
  | reverse | clear | pop
  deriving DecidableEq
def M0.name : M0 → String
  | .reverse => "reverse" | .clear => "clear" | .pop => "pop"
def m0R (m : M0) (o : D) (s : Sto) : Res RD :=
  match o with
  | .obj i => match m, s[i]? with
    | .reverse, some (.lst xs) => .ok (.d .non) (s.set i (.lst xs.reverse))
    | .clear, some (.lst xs) => .ok (.d .non) (s.set i (.lst []))
    | .pop, some (.lst xs) => match xs[xs.length - 1]? with
      | some y => .ok (.d y) (s.set i (.lst xs.dropLast))
      | none => .no
    | _, _ => .no
  | _ => .no

def isLstB (s : Sto) : D → Bool
  | .obj i => (lstAt s i).isSome
  | _ => false
/-! ### the language -/
inductive Tg where
  | v (i : Nat) | n | c (a b : Tg)
inductive Ex where
  | nil | cons (a b : Ex)
  | var (i : Nat) | int (z : Int) | str (x : Str) | bl (b : Bool) | non
  | gc (j : Nat)
  | tup (es : Ex) | lst (es : Ex)
  | bin (o : Bop) (a b : Ex) | neg (a : Ex) | nt (a : Ex)
  | cmp (o : Cop) (a b : Ex) | cmp2 (o o' : Cop) (a b c : Ex) | kin (j : Nat) (kvs : List (Str × Int)) (a : Ex) | kix (j : Nat) (kvs : List (Str × Int)) (a : Ex)
  | and (a b : Ex) | or (a b : Ex) | ife (c a b : Ex)
  | call (f : Nat) (es : Ex)
  | b1 (f : B1) (a : Ex) | b2 (f : B2) (a b : Ex) | i1 (f : I1) (a : Ex) | i2 (f : I2) (a b : Ex) | isin (a : Ex) (t : Ty) | fs (f : FS) (a : Ex) | si (a : Ex) | dd2 (k1 : Str) (a : Ex) (k2 : Str) (b : Ex) | dnew | dget (o k x : Ex) | dget1 (o k : Ex) | any | rng3 (a b c : Ex) | frz (a : Ex) | rev (a : Ex)
  | m0 (m : M0) (o : Ex) | m1 (m : M1) (o a : Ex)
  | ix (a b : Ex) | sl (a lo hi : Ex)
  | cp (elt : Ex) (tg : Tg) (it : Ex) (c : Ex) (own : List Nat)
/-- a walk that only a tuple of targets takes -/
def Ex.tupIt : Ex → Bool
  | .i1 .enumerate _ => true
  | .i2 .zip _ _ => true
  | _ => false
def Ex.isNil : Ex → Bool
  | .nil => true
  | _ => false
/-- what stands in an except suite: truths, given to names -/
inductive Hx where
  | bl (b : Bool) | isx (many : Bool) (ts : List Str) (b : Bool) | and (a c : Hx) | or (a c : Hx) | nt (a : Hx)
def Hx.run : Hx → Bool
  | .bl b => b
  | .isx _ _ b => b
  | .and a c => a.run && c.run
  | .or a c => a.run || c.run
  | .nt a => !a.run
inductive Hs where
  | nil | set (j : Nat) (x : Hx) (r : Hs) | ifs (x : Hx) (a r : Hs)
def Hs.run : Hs → Loc → Loc
  | .nil, l => l
  | .set j x r, l => r.run (l.set j (some (.bl x.run)))
  | .ifs x a r, l => r.run (if x.run = true then a.run l else l)
inductive Sm where
  | nil | cons (a b : Sm)
  | ex (e : Ex) | set (tg : Tg) (e : Ex) | setI (o i e : Ex) | aug (i : Nat) (o : Bop) (e : Ex)
  | ret (e : Ex) | retN | ifs (c : Ex) (a b : Sm) | for_ (tg : Tg) (it : Ex) (b : Sm) | wh (c : Ex) (b : Sm)
  | brk | cnt | pass | any | setSl (o lo hi e : Ex)
  | raise (n : Str) | try_ (b : Sm) (cls : Str) (i : Nat) (n : Str) (h : Hs)

mutual
/-- an assignment to a target -/
def bindT : Tg → D → Loc → Option Loc
  | .v i, d, l => if i < l.length then some (l.set i (some d)) else none
  | t, .tup ds, l => bindTs t ds l
  | t, .lf ds, l => bindTs t ds l
  | _, _, _ => none
def bindTs : Tg → List D → Loc → Option Loc
  | .n, [], l => some l
  | .c a b, d :: ds, l => (bindT a d l).bind (bindTs b ds)
  | _, _, _ => none
end

def Tg.isV : Tg → Bool
  | .v _ => true
  | _ => false
/-- what is unpacked: a list's items -/
def unlD (tg : Tg) (s : Sto) (d : D) : D := if tg.isV = true then d else match d with
  | .obj i => match s[i]? with
    | some (.lst xs) => .lf xs
    | _ => .obj i
  | d => d
def allocR (r : Res RD) : Res D := r.bind fun a s => match a with
  | .d x => .ok x s
  | .l xs => .ok (.obj s.length) (s ++ [.lst xs])
  | .m kvs => .ok (.obj s.length) (s ++ [.dct kvs])

structure Den where
  r : M RD
  b : M Bool
  i : M Its
  vs : M (List D)
def Den.v (a : Den) : M D := fun l s => allocR (a.r l s)
def noM {α : Type} : M α := fun _ _ => .no
/-- an expression by its result: its truth, its walk by that -/
def mkR (m : M RD) : Den where
  r := m
  b := fun l s => (m l s).bind fun a s1 => ofO (truthR s1 a) s1
  i := fun l s => (m l s).bind fun a s1 => ofO (itsR s1 a) s1
  vs := noM
def mkI (m : M Its) : Den := ⟨noM, noM, m, noM⟩
/-- .. that is no test -/
def mkQ (m : M RD) : Den where
  r := m
  b := noM
  i := fun l s => (m l s).bind fun a s1 => ofO (itsR s1 a) s1
  vs := noM
/-- an expression by a truth -/
def mkB (r : M RD) (b : M Bool) : Den := ⟨r, b, noM, noM⟩

def srcOk (src : Option (Nat × List D)) (s : Sto) : Prop :=
  match src with
  | none => True
  | some (i, xs) => s[i]? = some (.lst xs)
def wipeL (l : Loc) : List Nat → Loc
  | [] => l
  | v :: vs => (wipeL l vs).set v none
/-- a run that raises nothing -/
def noX {α : Type} (r : Res α) : Res α := match r with
  | .ex _ _ => .no
  | r => r
open Classical in
/-- the turns of a comprehension -/
noncomputable def cpLoop (tg : Tg) (src : Option (Nat × List D)) (c : M Bool) (e : M D) (l : Loc) : List D → List D → Sto → Res (List D)
  | [], acc, s => if srcOk src s then .ok acc s else .no
  | x :: xs, acc, s => if srcOk src s then (match bindT tg x l with
    | none => .no
    | some l1 => (noX (c l1 s)).bind fun t s1 =>
      if t = true then (noX (e l1 s1)).bind fun y s2 =>
        if acc.length < sizeLine then cpLoop tg src c e l xs (acc ++ [y]) s2 else .no
      else cpLoop tg src c e l xs acc s1) else .no

/-- a fresh list that will never change -/
def frzR : RD → RD
  | .d x => .d x
  | .l xs => .d (.lf xs)
  | .m kvs => if dK kvs = true then .d (.ld (kvs.map (·.1)) (kvs.map (·.2))) else .m kvs
/-- x in D, D[x] of a dict of the top with texts, to whole numbers -/
def kinR (kvs : List (Str × Int)) : RD → Option Bool
  | .d (.str z) => some (kvs.lookup z).isSome
  | _ => none
def kixR (kvs : List (Str × Int)) : RD → Option RD
  | .d (.str z) => (kvs.lookup z).map fun i => .d (.int i)
  | _ => none
/-- a slice's part -/
def optI (skip : Bool) (m : M RD) : M (Option Int) := fun l s =>
  if skip = true then .ok none s else (m l s).bind fun y s2 => match y with
    | .d (.int i) => .ok (some i) s2
    | _ => .no
noncomputable def den (cf : Nat → List D → Sto → Res RD) (gc : Nat → Option D) : Ex → Den
  | .nil => ⟨noM, fun l s => .ok true s, noM, fun l s => .ok [] s⟩
  | .cons a b => ⟨noM, noM, noM, fun l s => ((den cf gc a).v l s).bind fun x s1 => ((den cf gc b).vs l s1).bind fun xs s2 => .ok (x :: xs) s2⟩
  | .var i => mkR fun l s => match l[i]? with
    | some (some d) => .ok (.d d) s
    | _ => .no
  | .int z => mkR fun _ s => .ok (.d (.int z)) s
  | .str x => mkR fun _ s => .ok (.d (.str x)) s
  | .bl b => mkR fun _ s => .ok (.d (.bl b)) s
  | .non => mkR fun _ s => .ok (.d .non) s
  | .gc j => mkR fun _ s => ofO ((gc j).map .d) s
  | .tup es => mkR fun l s => ((den cf gc es).vs l s).bind fun xs s1 => if xs.length ≤ sizeLine then .ok (.d (.tup xs)) s1 else .no
  | .lst es => mkR fun l s => ((den cf gc es).vs l s).bind fun xs s1 => if xs.length ≤ sizeLine then .ok (.l xs) s1 else .no
  | .bin o a b => mkR fun l s => ((den cf gc a).r l s).bind fun x s1 => ((den cf gc b).r l s1).bind fun y s2 => ofO (binR o s2 x y) s2
  | .neg a => mkR fun l s => ((den cf gc a).r l s).bind fun x s1 => match x with
    | .d (.int i) => .ok (.d (.int (-i))) s1
    | _ => .no
  | .nt a => mkB (fun l s => ((den cf gc a).r l s).bind fun x s1 => match x with
    | .d (.bl b) => .ok (.d (.bl (!b))) s1
    | _ => .no) fun l s => ((den cf gc a).b l s).bind fun t s1 => .ok (!t) s1
  | .cmp o a b => mkB (fun l s => ((den cf gc a).r l s).bind fun x s1 => ((den cf gc b).r l s1).bind fun y s2 => ofO ((cmpR o s2 x y).map fun t => .d (.bl t)) s2)
    fun l s => ((den cf gc a).r l s).bind fun x s1 => ((den cf gc b).r l s1).bind fun y s2 => ofO (cmpR o s2 x y) s2
  | .cmp2 o o' a b c => mkB (fun l s => ((den cf gc a).r l s).bind fun x s1 => ((den cf gc b).r l s1).bind fun y s2 => (ofO (cmpR o s2 x y) s2).bind fun t s2 => if t = true then ((den cf gc c).r l s2).bind fun z s3 => ofO ((cmpR o' s3 y z).map fun t => .d (.bl t)) s3 else .ok (.d (.bl false)) s2)
    fun l s => ((den cf gc a).r l s).bind fun x s1 => ((den cf gc b).r l s1).bind fun y s2 => (ofO (cmpR o s2 x y) s2).bind fun t s2 => if t = true then ((den cf gc c).r l s2).bind fun z s3 => ofO (cmpR o' s3 y z) s3 else .ok false s2
  | .kin _ kvs a => mkB (fun l s => ((den cf gc a).r l s).bind fun x s1 => ofO ((kinR kvs x).map fun t => .d (.bl t)) s1) fun l s => ((den cf gc a).r l s).bind fun x s1 => ofO (kinR kvs x) s1
  | .kix _ kvs a => mkR fun l s => ((den cf gc a).r l s).bind fun x s1 => ofO (kixR kvs x) s1
  | .and a b => mkB (fun l s => ((den cf gc a).r l s).bind fun x s1 => match x with
    | .d (.bl true) => (den cf gc b).r l s1
    | .d (.bl false) => .ok (.d (.bl false)) s1
    | _ => .no) fun l s => ((den cf gc a).b l s).bind fun t s1 => if t = true then (den cf gc b).b l s1 else .ok false s1
  | .or a b => mkB (fun l s => ((den cf gc a).r l s).bind fun x s1 => match x with
    | .d (.bl false) => (den cf gc b).r l s1
    | .d (.bl true) => .ok (.d (.bl true)) s1
    | _ => .no) fun l s => ((den cf gc a).b l s).bind fun t s1 => if t = true then .ok true s1 else (den cf gc b).b l s1
  | .ife c a b => mkQ fun l s => ((den cf gc c).b l s).bind fun t s1 => if t = true then (den cf gc a).r l s1 else (den cf gc b).r l s1
  | .call f es => mkR fun l s => ((den cf gc es).vs l s).bind fun ds s1 => cf f ds s1
  | .b1 f a => mkR fun l s => ((den cf gc a).r l s).bind fun x s1 => ofO (b1R f s1 x) s1
  | .b2 f a b => mkR fun l s => ((den cf gc a).r l s).bind fun x s1 => ((den cf gc b).r l s1).bind fun y s2 => ofO (b2R f s2 x y) s2
  | .i1 f a => mkI fun l s => ((den cf gc a).r l s).bind fun x s1 => ofO (i1R f s1 x) s1
  | .i2 f a b => mkI fun l s => ((den cf gc a).r l s).bind fun x s1 => ((den cf gc b).r l s1).bind fun y s2 => ofO (i2R f s2 x y) s2
  | .isin a t => mkR fun l s => ((den cf gc a).r l s).bind fun x s1 => ofO ((isinR s1 t x).map fun b => .d (.bl b)) s1
  | .fs f a => mkR fun l s => ((den cf gc a).r l s).bind fun x s1 => ofO (fsR f s1 x) s1
  | .si a => mkR fun l s => ((den cf gc a).v l s).bind fun x s1 => ofO (siR s1 x) s1
  | .rev a => mkR fun l s => ((den cf gc a).r l s).bind fun x s1 => ofO ((asL s1 x).map fun xs => .l xs.reverse) s1
  | .dd2 k1 a k2 b => mkR fun l s => (noX ((den cf gc a).v l s)).bind fun x s1 => (noX ((den cf gc b).v l s1)).bind fun y s2 => if k1 = k2 then .no else .ok (.m [(.str k1, x), (.str k2, y)]) s2
  | .dnew => mkR fun _ s => .ok (.m []) s
  | .dget1 o k => mkR fun l s => ((den cf gc o).r l s).bind fun o s1 => if (dctAt s1 o).isSome = true ∨ (nAt s1 o).isSome = true then ((den cf gc k).r l s1).bind fun k s2 => ofO (getR1 s2 o k) s2 else .no
  | .dget o k x => mkR fun l s => ((den cf gc o).r l s).bind fun o s1 => if dgOk s1 o = true then ((den cf gc k).r l s1).bind fun k s2 => ((den cf gc x).v l s2).bind fun x s3 => ofO (getR s3 o k (.d x)) s3 else .no
  | .any => ⟨noM, noM, noM, noM⟩
  | .frz a => mkR fun l s => ((den cf gc a).r l s).bind fun x s1 => .ok (frzR x) s1
  | .rng3 a b c => mkI fun l s => ((den cf gc a).r l s).bind fun x s1 => ((den cf gc b).r l s1).bind fun y s2 => ((den cf gc c).r l s2).bind fun z s3 => ofO (rng3R x y z) s3
  | .m0 m o => mkR fun l s => ((den cf gc o).v l s).bind fun x s1 => m0R m x s1
  | .m1 m o a => mkR fun l s => ((den cf gc o).v l s).bind fun x s1 => if isLstB s1 x = true then
      (if m = .append then ((den cf gc a).v l s1).bind fun y s2 => m1R m x (.d y) s2 else ((den cf gc a).r l s1).bind fun y s2 => m1R m x y s2) else .no
  | .ix a b => mkR fun l s => ((den cf gc a).r l s).bind fun x s1 => ((den cf gc b).r l s1).bind fun y s2 => ofO (ixR s2 x y) s2
  | .sl a lo hi => mkR fun l s => ((den cf gc a).r l s).bind fun x s1 =>
      (optI lo.isNil (den cf gc lo).r l s1).bind fun i s2 => (optI hi.isNil (den cf gc hi).r l s2).bind fun j s3 => ofO (slR s3 x i j) s3
  | .cp elt tg it c own => mkR fun l s => ((den cf gc it).i l s).bind fun its s1 =>
      (cpLoop tg its.src (den cf gc c).b (den cf gc elt).v (wipeL l own) its.ds [] s1).bind fun ys s2 => .ok (.l ys) s2

/-! ### statements -/
inductive Fl where
  | nx | bk | ct | rt (d : RD)
abbrev SM := Loc → Sto → Res (Fl × Loc)
open Classical in
noncomputable def forLoop (tg : Tg) (src : Option (Nat × List D)) (body : SM) : List D → Loc → Sto → Res (Fl × Loc)
  | [], l, s => if srcOk src s then .ok (.nx, l) s else .no
  | x :: xs, l, s => if srcOk src s then (match bindT tg x l with
    | none => .no
    | some l1 => (body l1 s).bind fun fl s1 => match fl.1 with
      | .nx => forLoop tg src body xs fl.2 s1
      | .ct => forLoop tg src body xs fl.2 s1
      | .bk => .ok (.nx, fl.2) s1
      | .rt d => .ok (.rt d, fl.2) s1) else .no
def whLoop (c : M Bool) (body : SM) : Nat → Loc → Sto → Res (Fl × Loc)
  | 0, _, _ => .no
  | n + 1, l, s => (c l s).bind fun t s0 => if t = true then (body l s0).bind fun fl s1 => match fl.1 with
      | .nx => whLoop c body n fl.2 s1
      | .ct => whLoop c body n fl.2 s1
      | .bk => .ok (.nx, fl.2) s1
      | .rt d => .ok (.rt d, fl.2) s1
    else .ok (.nx, l) s0
/-- o[i] = d -/
def setR (o i d : D) (s : Sto) : Res Unit :=
  match o with
  | .obj p => match s[p]? with
    | some (.lst xs) => match i with
      | .int k => match ixN xs.length k with
        | some j => .ok () (s.set p (.lst (xs.set j d)))
        | none => .no
      | _ => .no
    | some (.dct kvs) => match keyK i with
      | some k => if kvs.length < sizeLine ∧ dK kvs = true then .ok () (s.set p (.dct (dput kvs k d))) else .no
      | none => match keyN i with
        | some k => if kvs.length < sizeLine ∧ (kvs.isEmpty = true ∨ dN kvs = true) then .ok () (s.set p (.dct (nput kvs k i d))) else .no
        | none => match keyB i with
          | some b => if kvs.length < sizeLine ∧ (kvs.isEmpty = true ∨ dB kvs = true) then .ok () (s.set p (.dct (bput kvs b d))) else .no
          | none => .no
    | none => .no
  | _ => .no
/-- o[i:j] = d -/
def setSlR (o d : D) (i j : Int) (s : Sto) : Res Unit :=
  match o, d with
  | .obj p, .obj q => match s[p]?, s[q]? with
    | some (.lst xs), some (.lst ys) => if p ≠ q ∧ 0 ≤ i ∧ i ≤ j ∧ j ≤ xs.length ∧ xs.length + ys.length ≤ sizeLine then .ok () (s.set p (.lst (xs.take i.toNat ++ ys ++ xs.drop j.toNat))) else .no
    | _, _ => .no
  | _, _ => .no
/-- x o= y -/
def augR (o : Bop) (x : D) (y : RD) : Option D :=
  match o, x, y with
  | .add, .int a, .d (.int b) => some (.int (a + b))
  | .sub, .int a, .d (.int b) => some (.int (a - b))
  | .add, .str a, .d (.str b) => if a.length + b.length ≤ sizeLine then some (.str (a ++ b)) else none
  | _, _, _ => none
/-- turns of a while -/
def whileFuel : Nat := 1000000
noncomputable def sden (cf : Nat → List D → Sto → Res RD) (gc : Nat → Option D) : Sm → SM
  | .nil => fun l s => .ok (.nx, l) s
  | .cons a b => fun l s => (sden cf gc a l s).bind fun fl s1 => match fl.1 with
    | .nx => sden cf gc b fl.2 s1
    | f => .ok (f, fl.2) s1
  | .ex e => fun l s => ((den cf gc e).r l s).bind fun _ s1 => .ok (.nx, l) s1
  | .set tg e => fun l s => ((den cf gc e).v l s).bind fun d s1 => match bindT tg (unlD tg s1 d) l with
    | some l1 => .ok (.nx, l1) s1
    | none => .no
  | .setI o i e => fun l s => ((den cf gc e).v l s).bind fun d s1 => ((den cf gc o).v l s1).bind fun p s2 => ((den cf gc i).v l s2).bind fun k s3 => (setR p k d s3).bind fun _ s4 => .ok (.nx, l) s4
  | .aug i o e => fun l s => match l[i]? with
    | some (some x) => ((den cf gc e).r l s).bind fun y s1 => (ofO (augR o x y) s1).bind fun d s2 => .ok (.nx, l.set i (some d)) s2
    | _ => .no
  | .ret e => fun l s => ((den cf gc e).r l s).bind fun d s1 => .ok (.rt d, l) s1
  | .retN => fun l s => .ok (.rt (.d .non), l) s
  | .ifs c a b => fun l s => ((den cf gc c).b l s).bind fun t s1 => if t = true then sden cf gc a l s1 else sden cf gc b l s1
  | .for_ tg it b => fun l s => ((den cf gc it).i l s).bind fun its s1 => forLoop tg its.src (sden cf gc b) its.ds l s1
  | .wh c b => fun l s => whLoop (den cf gc c).b (sden cf gc b) whileFuel l s
  | .brk => fun l s => .ok (.bk, l) s
  | .cnt => fun l s => .ok (.ct, l) s
  | .pass => fun l s => .ok (.nx, l) s
  | .any => fun _ _ => .no
  | .setSl o lo hi e => fun l s => ((den cf gc e).v l s).bind fun d s1 => ((den cf gc o).v l s1).bind fun p s2 => (optI false (den cf gc lo).r l s2).bind fun i s3 => (optI false (den cf gc hi).r l s3).bind fun j s4 =>
      match i, j with
      | some i, some j => (setSlR p d i j s4).bind fun _ s5 => .ok (.nx, l) s5
      | _, _ => .no
  | .raise n => fun _ s => .ex (.str n) s
  | .try_ b _ i n h => fun l s => match sden cf gc b l s with
    | .ex (.str m) s1 => if m = n ∧ i < l.length then .ok (.nx, (h.run (l.set i none)).set i none) s1 else .no
    | .ex _ _ => .no
    | r => r

/-! ### calls -/
mutual
def D.lt (n : Nat) : D → Bool
  | .tup xs => D.ltAll n xs
  | .lf xs => D.ltAll n xs
  | .ld ks vs => D.ltAll n ks && D.ltAll n vs
  | .obj i => decide (i < n)
  | _ => true
def D.ltAll (n : Nat) : List D → Bool
  | [] => true
  | x :: r => D.lt n x && D.ltAll n r
end
def Ob.lt (n : Nat) : Ob → Bool
  | .lst xs => D.ltAll n xs
  | .dct kvs => D.ltAll n (kvs.map (·.1)) && D.ltAll n (kvs.map (·.2))
/-- what a call leaves: what it made is let go where nothing leans on it -/
def fin (b : Nat) (r : RD) (s : Sto) : Res RD :=
  if ((s.take b).all (Ob.lt b)) = true then
    match r with
    | .l xs => if D.ltAll b xs = true then .ok (.l xs) (s.take b) else .ok (.l xs) s
    | .m kvs => if (Ob.dct kvs).lt b = true then .ok (.m kvs) (s.take b) else .ok (.m kvs) s
    | .d d => if d.lt b = true then .ok (.d d) (s.take b) else
      match d with
      | .obj i => match s[i]? with
        | some (.lst xs) => if D.ltAll b xs = true then .ok (.l xs) (s.take b) else .ok (.d d) s
        | some (.dct kvs) => if (Ob.dct kvs).lt b = true then .ok (.m kvs) (s.take b) else .ok (.d d) s
        | none => .ok (.d d) s
      | _ => .ok (.d d) s
  else .ok r s
structure Fn where
  name : Str
  ps : List Str
  ns : List Str
  body : Sm
/-- excs: classes of exceptions of the text's own; exm: which is caught by which; isx: isinstance of each; kds: dicts of the top; al: the def's name of a function that has another name here -/
structure Tab where
  fns : List Fn
  cons : List (Str × D)
  blts : List Str
  excs : List Str
  exm : List (Str × Str)
  isx : List (Str × Str × Bool)
  kds : List (Str × List (Str × Int)) := []
  al : List (Str × Str) := []
def Tab.dn (T : Tab) (x : Str) : Str := (T.al.lookup x).getD x
def Tab.isAny (T : Tab) (n : Str) : List Str → Option Bool
  | [] => some false
  | t :: r => if T.isx.contains (n, t, true) = true then some true else if T.isx.contains (n, t, false) = true then T.isAny n r else none
def Tab.gc (T : Tab) (j : Nat) : Option D := (T.cons[j]?).map (·.2)
noncomputable def runFn (cf : Nat → List D → Sto → Res RD) (gc : Nat → Option D) (F : Fn) (ds : List D) (s : Sto) : Res RD :=
  if ds.length = F.ps.length then
    (sden cf gc F.body (ds.map some ++ List.replicate (F.ns.length - ds.length) none) s).bind fun fl s1 => match fl.1 with
      | .nx => fin s.length (.d .non) s1
      | .rt d => fin s.length d s1
      | _ => .no
  else .no
noncomputable def callN (T : Tab) : Nat → Nat → List D → Sto → Res RD
  | 0, _, _, _ => .no
  | n + 1, i, ds, s => match T.fns[i]? with
    | some F => runFn (callN T n) T.gc F ds s
    | none => .no
end Nv

set_option Elab.async false
set_option linter.all false
set_option maxRecDepth 100000
set_option autoImplicit false
/-! NvRel: plain data over the abstract heap. -/
namespace Nv
open PySem PySem.Spec PyProof.Rows L2

/-- the known part of the heap, and the world (texts' hashes) -/
structure Kw where
  K : PySem.W.Frag
  w : World
instance : Coe Kw PySem.W.Frag := ⟨Kw.K⟩
abbrev _root_.L2.Cx.kw (X : Cx) : Kw := ⟨X.K, X.w⟩
/-- a list that never changes -/
def SqF (K : PySem.W.Frag) (H : Hp) (a : Addr) (xs : List V) : Prop := (∃ o, H a = some (.frz o (.lst xs))) ∨
  ∃ (o : Obj) (its : Array Value) (n : Nat), K.lookup a = some o ∧ o.cls = .type "list" ∧ o.dict = none ∧ o.data = .seq its n ∧ its.size ≤ sizeLine ∧ Vals xs its.toList
theorem SqF.sql {K : PySem.W.Frag} {H : Hp} {a : Addr} {xs : List V} (h : SqF K H a xs) : SqL K H a xs := by
  rcases h with h | h
  · exact .inl (.inr h)
  · exact .inr h
theorem SqF.mono {K : PySem.W.Frag} {H H' : Hp} (fz : ∀ (a : Addr) o u, H a = some (.frz o u) → H' a = some (.frz o u)) {a : Addr} {xs : List V} (h : SqF K H a xs) : SqF K H' a xs := by
  rcases h with ⟨u, h⟩ | h
  · exact .inl ⟨u, fz _ _ _ h⟩
  · exact .inr h
mutual
def RV (K : Kw) (ρ : List Addr) (H : Hp) : D → V → Prop
  | .non, v => v = .non
  | .bl b, v => v = .bl b
  | .int i, v => v = .int i
  | .str x, v => v = .str x
  | .tup ds, v => ∃ a vs, v = .ref a ∧ SqT K H a vs ∧ RVs K ρ H ds vs
  | .lf ds, v => ∃ a vs, v = .ref a ∧ SqF K H a vs ∧ RVs K ρ H ds vs
  | .ld ks ds, v => ∃ (a : Addr) (o : Obj) (vs : List (Key × V)), v = .ref a ∧ H a = some (.frz o (.dK vs)) ∧ vs.map (fun p => keyD p.1) = ks ∧ RVs K ρ H ds (vs.map (·.2))
  | .obj i, v => ∃ a : Addr, v = .ref a ∧ ρ[i]? = some a
def RVs (K : Kw) (ρ : List Addr) (H : Hp) : List D → List V → Prop
  | [], vs => vs = []
  | d :: ds, vs => ∃ v r, vs = v :: r ∧ RV K ρ H d v ∧ RVs K ρ H ds r
end
/-- what a heap and a table of places become -/
structure Ext (K : Kw) (ρ : List Addr) (H : Hp) (ρ' : List Addr) (H' : Hp) : Prop where
  pre : ∀ (i : Nat) (a : Addr), ρ[i]? = some a → ρ'[i]? = some a
  tup : ∀ a xs, SqT K H a xs → SqT K H' a xs
  fz : ∀ a o u, H a = some (.frz o u) → H' a = some (.frz o u)
  oth : ∀ a o, H a = some o → a ∉ ρ → H' a = some o
  new : ∀ a, a ∈ ρ' → a ∈ ρ ∨ H a = none
  bk : ∀ a, H' a = none → H a = none
/-- a dict's entry whose key is a tuple at an address -/
def entN (w : World) (x : NestedKey × Addr × Value) : DictEntry := ⟨x.1.hash w, .ref x.2.1, x.2.2⟩
/-- a dict by its entries -/
def NDO (w : World) (a : Addr) (xs : List (NestedKey × Addr × Value)) : HO := .ext fun h => ∃ o es ep, h.get? a = some o ∧ o.ExactDict ∧ o.data = .dict es ep ∧ es.toList = xs.map (entN w)
/-- a dict of texts and whole numbers; a dict of tuples -/
def DK (K : Kw) (ρ : List Addr) (H : Hp) (a : Addr) (kvs : List (D × D)) : Prop := ∃ vs : List (Key × V), H a = some (.dK vs) ∧ vs.map (fun p => keyD p.1) = kvs.map (·.1) ∧ RVs K ρ H (kvs.map (·.2)) (vs.map (·.2))
structure DN (K : Kw) (ρ : List Addr) (H : Hp) (a : Addr) (kvs : List (D × D)) (xs : List (NestedKey × Addr × Value)) (vs : List V) : Prop where
  at_ : H a = some (NDO K.w a xs)
  ne : kvs ≠ []
  few : xs.length ≤ sizeLine
  sys : (a == sysModules) = false
  nd : (xs.map (·.1)).Nodup
  ks : kvs.map (fun p => keyN p.1) = xs.map fun x => some x.1
  rk : RVs K ρ H (kvs.map (·.1)) (xs.map fun x => V.ref x.2.1)
  vl : Vals vs (xs.map (·.2.2))
  rv : RVs K ρ H (kvs.map (·.2)) vs
/-- a dict of truths -/
def DBO (w : World) (a : Addr) (xs : List (Bool × Value)) : HO := .ext fun h => ∀ P : Program, h.DictOf (boolKind P w) a xs
structure DB (K : Kw) (ρ : List Addr) (H : Hp) (a : Addr) (kvs : List (D × D)) (xs : List (Bool × Value)) (vs : List V) : Prop where
  at_ : H a = some (DBO K.w a xs)
  ne : kvs ≠ []
  few : xs.length ≤ sizeLine
  sys : (a == sysModules) = false
  ks : kvs.map (·.1) = xs.map fun x => D.bl x.1
  vl : Vals vs (xs.map (·.2))
  rv : RVs K ρ H (kvs.map (·.2)) vs
def ROb (K : Kw) (ρ : List Addr) (H : Hp) (a : Addr) : Ob → Prop
  | .lst xs => ∃ vs, H a = some (.lst vs) ∧ RVs K ρ H xs vs
  | .dct kvs => DK K ρ H a kvs ∨ (∃ xs vs, DN K ρ H a kvs xs vs) ∨ ∃ xs vs, DB K ρ H a kvs xs vs
structure RS (K : Kw) (ρ : List Addr) (H : Hp) (s : Sto) : Prop where
  len : ρ.length = s.length
  nd : ρ.Nodup
  ob : ∀ (i : Nat) (o : Ob) (a : Addr), s[i]? = some o → ρ[i]? = some a → ROb K ρ H a o
structure RL (K : Kw) (ρ : List Addr) (H : Hp) (σ : L2.St) (l : Loc) : Prop where
  len : l.length = σ.length
  at_ : ∀ (i : Nat) (d : D), l[i]? = some (some d) → ∃ v, σ[i]? = some (some v) ∧ RV K ρ H d v
/-- H₀: the heap ahead of the expression, in which a fresh list did not stand -/
def RR (K : Kw) (H0 : Hp) (ρ : List Addr) (H : Hp) : RD → V → Prop
  | .d x, v => RV K ρ H x v
  | .l xs, v => ∃ a vs, v = .ref a ∧ H a = some (.lst vs) ∧ RVs K ρ H xs vs ∧ a ∉ ρ ∧ H0 a = none
  | .m kvs, v => ∃ a, v = .ref a ∧ ROb K ρ H a (.dct kvs) ∧ a ∉ ρ ∧ H0 a = none

section
variable {K : Kw} {ρ ρ' ρ1 : List Addr} {H H' H1 : Hp} {s : Sto} {σ : L2.St} {l : Loc}
theorem Ext.fzl (e : Ext K ρ H ρ' H') : ∀ a xs, SqF K H a xs → SqF K H' a xs := fun a xs h => h.mono e.fz
theorem Ext.refl : Ext K ρ H ρ H := ⟨fun _ _ h => h, fun _ _ h => h, fun _ _ _ h => h, fun _ _ h _ => h, fun _ h => .inl h, fun _ h => h⟩
theorem Ext.trans (e : Ext K ρ H ρ' H') (f : Ext K ρ' H' ρ1 H1) : Ext K ρ H ρ1 H1 where
  pre := fun i a h => f.pre i a (e.pre i a h)
  tup := fun a xs h => f.tup a xs (e.tup a xs h)
  fz := fun a o u h => f.fz a o u (e.fz a o u h)
  oth := fun a o h n => by
    have h1 := e.oth a o h n
    refine f.oth a o h1 fun m => ?_
    rcases e.new a m with m | m
    · exact n m
    · rw [h] at m; cases m
  new := fun a m => by
    rcases f.new a m with m | m
    · exact e.new a m
    · cases q : H a with
      | none => exact .inr rfl
      | some o =>
        by_cases r : a ∈ ρ
        · exact .inl r
        · rw [e.oth a o q r] at m; cases m
  bk := fun a h => e.bk a (f.bk a h)
mutual
theorem RV.mono0 (pre : ∀ (i : Nat) (a : Addr), ρ[i]? = some a → ρ'[i]? = some a) (tup : ∀ a xs, SqT K H a xs → SqT K H' a xs) (fz : ∀ (a : Addr) o u, H a = some (.frz o u) → H' a = some (.frz o u)) : ∀ (d : D) (v : V), RV K ρ H d v → RV K ρ' H' d v
  | .non, _, h => by unfold RV at *; exact h
  | .bl _, _, h => by unfold RV at *; exact h
  | .int _, _, h => by unfold RV at *; exact h
  | .str _, _, h => by unfold RV at *; exact h
  | .tup ds, _, h => by
    unfold RV at *
    obtain ⟨a, vs, e1, e2, e3⟩ := h
    exact ⟨a, vs, e1, tup a vs e2, RVs.mono0 pre tup fz ds vs e3⟩
  | .lf ds, _, h => by
    unfold RV at *
    obtain ⟨a, vs, e1, e2, e3⟩ := h
    exact ⟨a, vs, e1, e2.mono fz, RVs.mono0 pre tup fz ds vs e3⟩
  | .ld ks ds, _, h => by
    unfold RV at *
    obtain ⟨a, o, vs, e1, e2, e3, e4⟩ := h
    exact ⟨a, o, vs, e1, fz a _ _ e2, e3, RVs.mono0 pre tup fz ds _ e4⟩
  | .obj i, _, h => by
    unfold RV at *
    obtain ⟨a, e1, e2⟩ := h
    exact ⟨a, e1, pre i a e2⟩
theorem RVs.mono0 (pre : ∀ (i : Nat) (a : Addr), ρ[i]? = some a → ρ'[i]? = some a) (tup : ∀ a xs, SqT K H a xs → SqT K H' a xs) (fz : ∀ (a : Addr) o u, H a = some (.frz o u) → H' a = some (.frz o u)) : ∀ (ds : List D) (vs : List V), RVs K ρ H ds vs → RVs K ρ' H' ds vs
  | [], _, h => by unfold RVs at *; exact h
  | d :: ds, _, h => by
    unfold RVs at *
    obtain ⟨v, r, e1, e2, e3⟩ := h
    exact ⟨v, r, e1, RV.mono0 pre tup fz d v e2, RVs.mono0 pre tup fz ds r e3⟩
end
theorem RV.mono (e : Ext K ρ H ρ' H') (d : D) (v : V) (h : RV K ρ H d v) : RV K ρ' H' d v := RV.mono0 e.pre e.tup e.fz d v h
theorem RVs.mono (e : Ext K ρ H ρ' H') (d : List D) (v : List V) (h : RVs K ρ H d v) : RVs K ρ' H' d v := RVs.mono0 e.pre e.tup e.fz d v h
mutual
theorem RV.widen (pre : ∀ (i : Nat) (a : Addr), ρ[i]? = some a → ρ'[i]? = some a) : ∀ {d : D} {v : V}, RV K ρ H d v → RV K ρ' H d v
  | .non, _, h => by unfold RV at *; exact h
  | .bl _, _, h => by unfold RV at *; exact h
  | .int _, _, h => by unfold RV at *; exact h
  | .str _, _, h => by unfold RV at *; exact h
  | .tup ds, _, h => by
    unfold RV at *
    obtain ⟨a, vs, e1, e2, e3⟩ := h
    exact ⟨a, vs, e1, e2, RVs.widen pre e3⟩
  | .lf ds, _, h => by
    unfold RV at *
    obtain ⟨a, vs, e1, e2, e3⟩ := h
    exact ⟨a, vs, e1, e2, RVs.widen pre e3⟩
  | .ld ks ds, _, h => by
    unfold RV at *
    obtain ⟨a, o, vs, e1, e2, e3, e4⟩ := h
    exact ⟨a, o, vs, e1, e2, e3, RVs.widen pre e4⟩
  | .obj i, _, h => by
    unfold RV at *
    obtain ⟨a, e1, e2⟩ := h
    exact ⟨a, e1, pre i a e2⟩
theorem RVs.widen (pre : ∀ (i : Nat) (a : Addr), ρ[i]? = some a → ρ'[i]? = some a) : ∀ {ds : List D} {vs : List V}, RVs K ρ H ds vs → RVs K ρ' H ds vs
  | [], _, h => by unfold RVs at *; exact h
  | d :: ds, _, h => by
    unfold RVs at *
    obtain ⟨v, r, e1, e2, e3⟩ := h
    exact ⟨v, r, e1, RV.widen pre e2, RVs.widen pre e3⟩
end
theorem RL.mono (e : Ext K ρ H ρ' H') (h : RL K ρ H σ l) : RL K ρ' H' σ l := ⟨h.len, fun i d q => by
  obtain ⟨v, h1, h2⟩ := h.at_ i d q
  exact ⟨v, h1, RV.mono e d v h2⟩⟩
theorem RVs.length : ∀ {ds : List D} {vs : List V}, RVs K ρ H ds vs → vs.length = ds.length
  | [], _, h => by unfold RVs at h; rw [h]; rfl
  | d :: ds, _, h => by
    unfold RVs at h
    obtain ⟨v, r, e1, _, e3⟩ := h
    rw [e1, List.length_cons, List.length_cons, RVs.length e3]
theorem RVs.get : ∀ {ds : List D} {vs : List V} {i : Nat} {d : D}, RVs K ρ H ds vs → ds[i]? = some d → ∃ v, vs[i]? = some v ∧ RV K ρ H d v
  | [], _, _, _, _, q => by simp at q
  | x :: ds, _, 0, d, h, q => by
    unfold RVs at h
    obtain ⟨v, r, e1, e2, _⟩ := h
    simp at q
    subst q
    exact ⟨v, by rw [e1]; rfl, e2⟩
  | x :: ds, _, i + 1, d, h, q => by
    unfold RVs at h
    obtain ⟨v, r, e1, _, e3⟩ := h
    obtain ⟨w, h1, h2⟩ := RVs.get (i := i) (d := d) e3 (by simpa using q)
    exact ⟨w, by rw [e1]; simpa using h1, h2⟩
theorem RVs.append : ∀ {ds es : List D} {vs us : List V}, RVs K ρ H ds vs → RVs K ρ H es us → RVs K ρ H (ds ++ es) (vs ++ us)
  | [], _, _, _, h, h2 => by unfold RVs at h; rw [h]; exact h2
  | d :: ds, es, _, us, h, h2 => by
    unfold RVs at h
    obtain ⟨v, r, e1, e2, e3⟩ := h
    show RVs K ρ H (d :: (ds ++ es)) _
    unfold RVs
    exact ⟨v, r ++ us, by rw [e1]; rfl, e2, RVs.append e3 h2⟩
theorem RVs.take : ∀ {ds : List D} {vs : List V} (n : Nat), RVs K ρ H ds vs → RVs K ρ H (ds.take n) (vs.take n)
  | _, _, 0, _ => by rw [List.take_zero, List.take_zero]; unfold RVs; rfl
  | [], _, _ + 1, h => by unfold RVs at h; rw [h]; simp [RVs]
  | d :: ds, _, n + 1, h => by
    unfold RVs at h
    obtain ⟨v, r, e1, e2, e3⟩ := h
    subst e1
    show RVs K ρ H (d :: ds.take n) (v :: r.take n)
    unfold RVs
    exact ⟨v, _, rfl, e2, RVs.take n e3⟩
theorem RVs.drop : ∀ {ds : List D} {vs : List V} (n : Nat), RVs K ρ H ds vs → RVs K ρ H (ds.drop n) (vs.drop n)
  | _, _, 0, h => h
  | [], _, _ + 1, h => by unfold RVs at h; rw [h]; simp [RVs]
  | d :: ds, _, n + 1, h => by
    unfold RVs at h
    obtain ⟨v, r, e1, e2, e3⟩ := h
    subst e1
    exact RVs.drop n e3
theorem RVs.set {d : D} {v : V} (hd : RV K ρ H d v) : ∀ {ds : List D} {vs : List V} (n : Nat), RVs K ρ H ds vs → RVs K ρ H (ds.set n d) (vs.set n v)
  | [], _, _, h => by unfold RVs at h; rw [h]; simp [RVs]
  | x :: ds, _, 0, h => by
    unfold RVs at h
    obtain ⟨w, r, e1, e2, e3⟩ := h
    subst e1
    show RVs K ρ H (d :: ds) (v :: r)
    unfold RVs
    exact ⟨v, _, rfl, hd, e3⟩
  | x :: ds, _, n + 1, h => by
    unfold RVs at h
    obtain ⟨w, r, e1, e2, e3⟩ := h
    subst e1
    show RVs K ρ H (x :: ds.set n d) (w :: r.set n v)
    unfold RVs
    exact ⟨w, _, rfl, e2, RVs.set hd n e3⟩
theorem RVs.reverse : ∀ {ds : List D} {vs : List V}, RVs K ρ H ds vs → RVs K ρ H ds.reverse vs.reverse
  | [], _, h => by unfold RVs at h; rw [h]; simp [RVs]
  | x :: ds, _, h => by
    unfold RVs at h
    obtain ⟨w, r, e1, e2, e3⟩ := h
    subst e1
    rw [List.reverse_cons, List.reverse_cons]
    refine RVs.append (RVs.reverse e3) ?_
    unfold RVs
    exact ⟨w, [], rfl, e2, by unfold RVs; rfl⟩
theorem RVs.one {d : D} {v : V} (h : RV K ρ H d v) : RVs K ρ H [d] [v] := by
  unfold RVs
  exact ⟨v, [], rfl, h, by unfold RVs; rfl⟩
theorem RVs.nil_ : RVs K ρ H [] [] := by unfold RVs; rfl
theorem RVs.cons_ {d : D} {v : V} {ds : List D} {vs : List V} (h : RV K ρ H d v) (h2 : RVs K ρ H ds vs) : RVs K ρ H (d :: ds) (v :: vs) := by
  unfold RVs
  exact ⟨v, vs, rfl, h, h2⟩

theorem nodup_ix_ : ∀ {l : List Addr} {i j : Nat} {a : Addr}, l.Nodup → l[i]? = some a → l[j]? = some a → i = j := by
  intro l i j a nd h1 h2
  obtain ⟨b1, e1⟩ := List.getElem?_eq_some_iff.mp h1
  obtain ⟨b2, e2⟩ := List.getElem?_eq_some_iff.mp h2
  have pw := List.pairwise_iff_getElem.mp nd
  rcases Nat.lt_trichotomy i j with h | h | h
  · exact absurd (e1.trans e2.symm) (pw i j b1 b2 h)
  · exact h
  · exact absurd (e2.trans e1.symm) (pw j i b2 b1 h)
/-! ### steps of the heap -/
theorem sqt_new {a p : Addr} {xs : List V} {o : HO} (hp : H p = none) (h : SqT K H a xs) : SqT K (upd H p o) a xs := by
  rcases h with (h | ⟨u, h⟩) | h
  · exact .inl (.inl (by rw [upd_ne (ne_of_none h hp)]; exact h))
  · exact .inl (.inr ⟨u, by rw [upd_ne (ne_of_none h hp)]; exact h⟩)
  · exact .inr h
/-- a thing that may be changed -/
def Chg (H : Hp) (p : Addr) : Prop := (∀ xs, H p ≠ some (.tup xs)) ∧ ∀ o u, H p ≠ some (.frz o u)
theorem Chg.lst {p : Addr} {ys : List V} (h : H p = some (.lst ys)) : Chg H p := ⟨fun xs z => (by rw [h] at z; cases z), fun o u z => (by rw [h] at z; cases z)⟩
theorem Chg.dK {p : Addr} {ys : List (Key × V)} (h : H p = some (.dK ys)) : Chg H p := ⟨fun xs z => (by rw [h] at z; cases z), fun o u z => (by rw [h] at z; cases z)⟩
theorem ROb.chg {a : Addr} {o : Ob} (h : ROb K ρ H a o) : Chg H a := by
  cases o with
  | lst xs => obtain ⟨vs, h1, h2⟩ := h; exact .lst h1
  | dct kvs =>
    rcases h with ⟨vs, h1, h2, h3⟩ | ⟨xs, vs, h⟩ | ⟨xs, vs, h⟩
    · exact .dK h1
    · exact ⟨fun xs z => (by rw [h.at_] at z; cases z), fun o u z => (by rw [h.at_] at z; cases z)⟩
    · exact ⟨fun xs z => (by rw [h.at_] at z; cases z), fun o u z => (by rw [h.at_] at z; cases z)⟩
theorem sqt_chg {a p : Addr} {xs : List V} {o : HO} (hp : Chg H p) (h : SqT K H a xs) : SqT K (upd H p o) a xs := by
  rcases h with (h | ⟨u, h⟩) | h
  · exact .inl (.inl (by rw [upd_ne (fun z => hp.1 xs (by rw [← z]; exact h))]; exact h))
  · exact .inl (.inr ⟨u, by rw [upd_ne (fun z => hp.2 u (.tup xs) (by rw [← z]; exact h))]; exact h⟩)
  · exact .inr h
theorem fz_chg {p : Addr} {o : HO} (hp : Chg H p) : ∀ (a : Addr) ob u, H a = some (.frz ob u) → upd H p o a = some (.frz ob u) := fun a ob u h => by
  rw [upd_ne (fun z => hp.2 ob u (by rw [← z]; exact h))]; exact h
theorem fz_new {p : Addr} {o : HO} (hp : H p = none) : ∀ (a : Addr) ob u, H a = some (.frz ob u) → upd H p o a = some (.frz ob u) := fun a ob u h => by
  rw [upd_ne (ne_of_none h hp)]; exact h
theorem sqt_lst {a p : Addr} {xs ys : List V} {o : HO} (hp : H p = some (.lst ys)) (h : SqT K H a xs) : SqT K (upd H p o) a xs := by
  rcases h with (h | ⟨u, h⟩) | h
  · exact .inl (.inl (by rw [upd_ne (ne_of h hp (fun z => by cases z))]; exact h))
  · exact .inl (.inr ⟨u, by rw [upd_ne (ne_of h hp (fun z => by cases z))]; exact h⟩)
  · exact .inr h
theorem SqF.upd_new {a p : Addr} {xs : List V} {o : HO} (hp : H p = none) (h : SqF K H a xs) : SqF K (upd H p o) a xs := by
  rcases h with ⟨u, h⟩ | h
  · exact .inl ⟨u, by rw [upd_ne (ne_of_none h hp)]; exact h⟩
  · exact .inr h
theorem SqF.upd_lst {a p : Addr} {xs ys : List V} {o : HO} (hp : H p = some (.lst ys)) (h : SqF K H a xs) : SqF K (upd H p o) a xs := by
  rcases h with ⟨u, h⟩ | h
  · exact .inl ⟨u, by rw [upd_ne (ne_of h hp (fun z => by cases z))]; exact h⟩
  · exact .inr h
/-- a new object that the store does not know -/
theorem Ext.laid {p : Addr} {o : HO} (hp : H p = none) : Ext K ρ H ρ (upd H p o) where
  pre := fun _ _ h => h
  tup := fun a xs h => sqt_new hp h
  fz := fz_new hp
  oth := fun a u h _ => by rw [upd_ne (ne_of_none h hp)]; exact h
  new := fun a h => .inl h
  bk := fun a h => by
    by_cases e : a = p
    · rw [e]; exact hp
    · rw [upd_ne e] at h; exact h
theorem DN.imp {K' : Kw} {a : Addr} {kvs : List (D × D)} {xs : List (NestedKey × Addr × Value)} {vs : List V} (h : DN K ρ H a kvs xs vs) (ha : H' a = some (NDO K.w a xs)) (q : ∀ ds us, RVs K ρ H ds us → RVs K ρ' H' ds us) : DN K ρ' H' a kvs xs vs :=
  ⟨ha, h.ne, h.few, h.sys, h.nd, h.ks, q _ _ h.rk, h.vl, q _ _ h.rv⟩
theorem DB.imp {K' : Kw} {a : Addr} {kvs : List (D × D)} {xs : List (Bool × Value)} {vs : List V} (h : DB K ρ H a kvs xs vs) (ha : H' a = some (DBO K.w a xs)) (q : ∀ ds us, RVs K ρ H ds us → RVs K ρ' H' ds us) : DB K ρ' H' a kvs xs vs :=
  ⟨ha, h.ne, h.few, h.sys, h.ks, h.vl, q _ _ h.rv⟩
theorem ROb.mono {a : Addr} {o : Ob} (e : Ext K ρ H ρ' H') (hl : ∀ u, H a = some u → H' a = some u) (h : ROb K ρ H a o) : ROb K ρ' H' a o := by
  cases o with
  | lst xs => obtain ⟨vs, h1, h2⟩ := h; exact ⟨vs, hl _ h1, RVs.mono e xs vs h2⟩
  | dct kvs =>
    rcases h with ⟨vs, h1, h2, h3⟩ | ⟨xs, vs, h⟩ | ⟨xs, vs, h⟩
    · exact .inl ⟨vs, hl _ h1, h2, RVs.mono e _ _ h3⟩
    · exact .inr (.inl ⟨xs, vs, h.imp (K' := K) (hl _ h.at_) fun _ _ q => RVs.mono e _ _ q⟩)
    · exact .inr (.inr ⟨xs, vs, h.imp (K' := K) (hl _ h.at_) fun _ _ q => RVs.mono e _ _ q⟩)
theorem ROb.there {a : Addr} {o : Ob} (h : ROb K ρ H a o) : H a ≠ none := by
  cases o with
  | lst xs => obtain ⟨vs, h1, h2⟩ := h; rw [h1]; exact fun z => by cases z
  | dct kvs =>
    rcases h with ⟨vs, h1, h2, h3⟩ | ⟨xs, vs, h⟩ | ⟨xs, vs, h⟩
    · rw [h1]; exact fun z => by cases z
    · rw [h.at_]; exact fun z => by cases z
    · rw [h.at_]; exact fun z => by cases z
theorem RR.mono {H0 : Hp} (e : Ext K ρ H ρ' H') {a : RD} {v : V} (h : RR K H0 ρ H a v) : RR K H0 ρ' H' a v := by
  cases a with
  | d x => exact RV.mono e x v h
  | l xs =>
    obtain ⟨a, vs, e1, e2, e3, e4, e5⟩ := h
    refine ⟨a, vs, e1, e.oth a _ e2 e4, RVs.mono e xs vs e3, fun m => ?_, e5⟩
    rcases e.new a m with m | m
    · exact e4 m
    · rw [e2] at m; cases m
  | m kvs =>
    obtain ⟨a, e1, e2, e4, e5⟩ := h
    refine ⟨a, e1, e2.mono e (fun u q => e.oth a u q e4), fun m => ?_, e5⟩
    rcases e.new a m with m | m
    · exact e4 m
    · exact e2.there m
theorem ROb.widen (pre : ∀ (i : Nat) (a : Addr), ρ[i]? = some a → ρ'[i]? = some a) {a : Addr} {o : Ob} (h : ROb K ρ H a o) : ROb K ρ' H a o := by
  cases o with
  | lst xs => obtain ⟨vs, h1, h2⟩ := h; exact ⟨vs, h1, h2.widen pre⟩
  | dct kvs =>
    rcases h with ⟨vs, h1, h2, h3⟩ | ⟨xs, vs, h⟩ | ⟨xs, vs, h⟩
    · exact .inl ⟨vs, h1, h2, h3.widen pre⟩
    · exact .inr (.inl ⟨xs, vs, h.imp (K' := K) h.at_ fun _ _ q => q.widen pre⟩)
    · exact .inr (.inr ⟨xs, vs, h.imp (K' := K) h.at_ fun _ _ q => q.widen pre⟩)
theorem RS.there {p : Addr} (h : RS K ρ H s) (m : p ∈ ρ) : H p ≠ none := by
  obtain ⟨i, hi⟩ := List.mem_iff_getElem?.mp m
  have hlt : i < s.length := by
    rw [← h.len]
    exact (List.getElem?_eq_some_iff.mp hi).1
  exact (h.ob i _ p (List.getElem?_eq_getElem hlt) hi).there
theorem RS.fresh {p : Addr} (h : RS K ρ H s) (hp : H p = none) : p ∉ ρ := fun m => h.there m hp
theorem RS.laid {p : Addr} {o : HO} (hp : H p = none) (h : RS K ρ H s) : RS K ρ (upd H p o) s :=
  ⟨h.len, h.nd, fun i ob a h1 h2 => (h.ob i ob a h1 h2).mono (Ext.laid hp) fun u q => by rw [upd_ne (ne_of_none q hp)]; exact q⟩
/-- .. that the store takes up -/
theorem Ext.take_up {p : Addr} {o : HO} (hp : H p = none) : Ext K ρ H (ρ ++ [p]) (upd H p o) where
  pre := fun i a h => by rw [List.getElem?_append_left (List.getElem?_eq_some_iff.mp h).1]; exact h
  tup := fun a xs h => sqt_new hp h
  fz := fz_new hp
  oth := fun a u h _ => by rw [upd_ne (ne_of_none h hp)]; exact h
  new := fun a h => by
    rcases List.mem_append.mp h with h | h
    · exact .inl h
    · rw [List.mem_singleton.mp h]; exact .inr hp
  bk := fun a h => by
    by_cases e : a = p
    · rw [e]; exact hp
    · rw [upd_ne e] at h; exact h
/-- the thing at p, which the store does not know, is taken up -/
theorem RS.upO {p : Addr} {ob : Ob} (h : RS K ρ H s) (ro : ROb K ρ H p ob) (hn : p ∉ ρ) : RS K (ρ ++ [p]) H (s ++ [ob]) := by
  have pre : ∀ (i : Nat) (a : Addr), ρ[i]? = some a → (ρ ++ [p])[i]? = some a := fun i a q => by rw [List.getElem?_append_left (List.getElem?_eq_some_iff.mp q).1]; exact q
  refine ⟨by rw [List.length_append, List.length_append, h.len]; rfl, ?_, fun i o a h1 h2 => ?_⟩
  · rw [List.nodup_append]
    refine ⟨h.nd, by simp, fun a ha b hb => ?_⟩
    rw [List.mem_singleton.mp hb]
    rintro rfl
    exact hn ha
  · by_cases hi : i < s.length
    · rw [List.getElem?_append_left hi] at h1
      rw [List.getElem?_append_left (by rw [h.len]; exact hi)] at h2
      exact (h.ob i o a h1 h2).widen pre
    · have hi2 : i = s.length := by
        have := (List.getElem?_eq_some_iff.mp h1).1
        rw [List.length_append] at this
        simp at this
        omega
      subst hi2
      rw [List.getElem?_append_right (Nat.le_refl _), Nat.sub_self] at h1
      rw [List.getElem?_append_right (by rw [h.len]; exact Nat.le_refl _), h.len, Nat.sub_self] at h2
      cases h1
      cases h2
      exact ro.widen pre
theorem RS.up {p : Addr} {xs : List D} {vs : List V} (h : RS K ρ H s) (hp : H p = some (.lst vs)) (hn : p ∉ ρ) (r : RVs K ρ H xs vs) : RS K (ρ ++ [p]) H (s ++ [.lst xs]) := h.upO (ob := .lst xs) ⟨vs, hp, r⟩ hn
/-- a fresh list is taken up -/
theorem Ext.up {p : Addr} {ρ0 : List Addr} {H0 : Hp} (e : Ext K ρ0 H0 ρ H) (h0 : H0 p = none) : Ext K ρ0 H0 (ρ ++ [p]) H where
  pre := fun i a h => by
    have q := e.pre i a h
    rw [List.getElem?_append_left (List.getElem?_eq_some_iff.mp q).1]; exact q
  tup := e.tup
  fz := e.fz
  oth := e.oth
  new := fun a h => by
    rcases List.mem_append.mp h with h | h
    · exact e.new a h
    · rw [List.mem_singleton.mp h]; exact .inr h0
  bk := e.bk
/-- the list at p, which the store knows, is changed -/
theorem Ext.write {p : Addr} {vs ws : List V} (hp : H p = some (.lst vs)) (m : p ∈ ρ) : Ext K ρ H ρ (upd H p (.lst ws)) where
  pre := fun _ _ h => h
  tup := fun a xs h => sqt_lst hp h
  fz := fz_chg (.lst hp)
  oth := fun a u h n => by rw [upd_ne (fun z => n (by rw [z]; exact m))]; exact h
  new := fun a h => .inl h
  bk := fun a h => by
    by_cases e : a = p
    · rw [e, upd_same] at h; cases h
    · rw [upd_ne e] at h; exact h
theorem RS.write {i : Nat} {p : Addr} {vs ws : List V} {xs : List D} (h : RS K ρ H s) (hi : ρ[i]? = some p) (hp : H p = some (.lst vs)) (r : RVs K ρ H xs ws) : RS K ρ (upd H p (.lst ws)) (s.set i (.lst xs)) := by
  have m : p ∈ ρ := List.mem_of_getElem? hi
  have e := Ext.write (K := K) (ws := ws) hp m
  refine ⟨by rw [List.length_set]; exact h.len, h.nd, fun j o a h1 h2 => ?_⟩
  by_cases hj : i = j
  · subst hj
    rw [hi] at h2
    cases h2
    have hlt : i < s.length := by rw [← h.len]; exact (List.getElem?_eq_some_iff.mp hi).1
    rw [List.getElem?_set_self hlt] at h1
    cases h1
    exact ⟨ws, upd_same, RVs.mono e _ _ r⟩
  · rw [List.getElem?_set_ne hj] at h1
    refine (h.ob j o a h1 h2).mono e fun u q => ?_
    rw [upd_ne ?_]
    · exact q
    · rintro rfl
      exact hj (nodup_ix_ h.nd hi h2)
theorem RS.lstAt {i : Nat} {xs : List D} (h : RS K ρ H s) (hs : s[i]? = some (.lst xs)) : ∃ p vs, ρ[i]? = some p ∧ H p = some (.lst vs) ∧ RVs K ρ H xs vs := by
  have hlt : i < ρ.length := by rw [h.len]; exact (List.getElem?_eq_some_iff.mp hs).1
  obtain ⟨vs, q1, q2⟩ := h.ob i _ _ hs (List.getElem?_eq_getElem hlt)
  exact ⟨_, vs, List.getElem?_eq_getElem hlt, q1, q2⟩
/-! dicts -/
theorem ROb.dk {a : Addr} {kvs : List (D × D)} (h : ROb K ρ H a (.dct kvs)) (q : dK kvs = true) : DK K ρ H a kvs := by
  rcases h with h | ⟨xs, vs, h⟩ | ⟨xs, vs, h⟩
  · exact h
  rotate_left
  · exfalso
    cases kvs with
    | nil => exact h.ne rfl
    | cons p r =>
      have hk := h.ks
      cases xs with
      | nil => cases hk
      | cons x xs =>
        rw [List.map_cons, List.map_cons] at hk
        injection hk with h1 _
        unfold dK at q
        rw [List.all_cons, Bool.and_eq_true, h1] at q
        exact absurd q.1 (by simp [keyK])
  · exfalso
    cases kvs with
    | nil => exact h.ne rfl
    | cons p r =>
      have hk := h.ks
      cases xs with
      | nil => cases hk
      | cons x xs =>
        rw [List.map_cons, List.map_cons] at hk
        injection hk with h1 _
        unfold dK at q
        rw [List.all_cons, Bool.and_eq_true] at q
        have q1 := q.1
        unfold keyN at h1
        cases hp : p.1 with
        | int i => rw [hp] at h1; simp [keyOf, tupK] at h1
        | str i => rw [hp] at h1; simp [keyOf, tupK] at h1
        | _ => rw [hp] at q1; simp [keyK] at q1
theorem RS.dctAt {i : Nat} {kvs : List (D × D)} (h : RS K ρ H s) (hs : s[i]? = some (.dct kvs)) (q : dK kvs = true) : ∃ p vs, ρ[i]? = some p ∧ H p = some (.dK vs) ∧ vs.map (fun p => keyD p.1) = kvs.map (·.1) ∧ RVs K ρ H (kvs.map (·.2)) (vs.map (·.2)) := by
  have hlt : i < ρ.length := by rw [h.len]; exact (List.getElem?_eq_some_iff.mp hs).1
  obtain ⟨vs, q1, q2, q3⟩ := (h.ob i _ _ hs (List.getElem?_eq_getElem hlt)).dk q
  exact ⟨_, vs, List.getElem?_eq_getElem hlt, q1, q2, q3⟩
theorem sqt_dK {a p : Addr} {xs : List V} {ys : List (Key × V)} {o : HO} (hp : H p = some (.dK ys)) (h : SqT K H a xs) : SqT K (upd H p o) a xs := by
  rcases h with (h | ⟨u, h⟩) | h
  · exact .inl (.inl (by rw [upd_ne (ne_of h hp (fun z => by cases z))]; exact h))
  · exact .inl (.inr ⟨u, by rw [upd_ne (ne_of h hp (fun z => by cases z))]; exact h⟩)
  · exact .inr h
theorem SqF.upd_dK {a p : Addr} {xs : List V} {ys : List (Key × V)} {o : HO} (hp : H p = some (.dK ys)) (h : SqF K H a xs) : SqF K (upd H p o) a xs := by
  rcases h with ⟨u, h⟩ | h
  · exact .inl ⟨u, by rw [upd_ne (ne_of h hp (fun z => by cases z))]; exact h⟩
  · exact .inr h
theorem Ext.writeD {p : Addr} {vs ws : List (Key × V)} (hp : H p = some (.dK vs)) (m : p ∈ ρ) : Ext K ρ H ρ (upd H p (.dK ws)) where
  pre := fun _ _ h => h
  tup := fun a xs h => sqt_dK hp h
  fz := fz_chg (.dK hp)
  oth := fun a u h n => by rw [upd_ne (fun z => n (by rw [z]; exact m))]; exact h
  new := fun a h => .inl h
  bk := fun a h => by
    by_cases e : a = p
    · rw [e, upd_same] at h; cases h
    · rw [upd_ne e] at h; exact h
theorem RS.writeD {i : Nat} {p : Addr} {vs ws : List (Key × V)} {kvs : List (D × D)} (h : RS K ρ H s) (hi : ρ[i]? = some p) (hp : H p = some (.dK vs)) (hk : ws.map (fun p => keyD p.1) = kvs.map (·.1)) (r : RVs K ρ H (kvs.map (·.2)) (ws.map (·.2))) : RS K ρ (upd H p (.dK ws)) (s.set i (.dct kvs)) := by
  have m : p ∈ ρ := List.mem_of_getElem? hi
  have e := Ext.writeD (K := K) (ws := ws) hp m
  refine ⟨by rw [List.length_set]; exact h.len, h.nd, fun j o a h1 h2 => ?_⟩
  by_cases hj : i = j
  · subst hj
    rw [hi] at h2
    cases h2
    have hlt : i < s.length := by rw [← h.len]; exact (List.getElem?_eq_some_iff.mp hi).1
    rw [List.getElem?_set_self hlt] at h1
    cases h1
    exact .inl ⟨ws, upd_same, hk, RVs.mono e _ _ r⟩
  · rw [List.getElem?_set_ne hj] at h1
    refine (h.ob j o a h1 h2).mono e fun u q => ?_
    rw [upd_ne ?_]
    · exact q
    · rintro rfl
      exact hj (nodup_ix_ h.nd hi h2)
/-! ### a fresh list that the store does not know grows -/
section
variable {p : Addr} {vs ws : List V}
section
variable {ho : HO}
theorem RV.pokeA (hp : Chg H p) {d : D} {v : V} (h : RV K ρ H d v) : RV K ρ (upd H p ho) d v := RV.mono0 (fun _ _ q => q) (fun a xs q => sqt_chg hp q) (fz_chg hp) d v h
theorem RVs.pokeA (hp : Chg H p) {d : List D} {v : List V} (h : RVs K ρ H d v) : RVs K ρ (upd H p ho) d v := RVs.mono0 (fun _ _ q => q) (fun a xs q => sqt_chg hp q) (fz_chg hp) d v h
theorem RS.pokeA (hp : Chg H p) (hn : p ∉ ρ) (h : RS K ρ H s) : RS K ρ (upd H p ho) s := by
  refine ⟨h.len, h.nd, fun i o a h1 h2 => ?_⟩
  have q := h.ob i o a h1 h2
  have ne : a ≠ p := fun z => hn (by rw [← z]; exact List.mem_of_getElem? h2)
  cases o with
  | lst xs =>
    obtain ⟨us, q1, q2⟩ := q
    exact ⟨us, by rw [upd_ne ne]; exact q1, q2.pokeA hp⟩
  | dct kvs =>
    rcases q with ⟨us, q1, q2, q3⟩ | ⟨xs, vs, q⟩ | ⟨xs, vs, q⟩
    · exact .inl ⟨us, by rw [upd_ne ne]; exact q1, q2, q3.pokeA hp⟩
    · exact .inr (.inl ⟨xs, vs, q.imp (K' := K) (by rw [upd_ne ne]; exact q.at_) fun _ _ z => z.pokeA hp⟩)
    · exact .inr (.inr ⟨xs, vs, q.imp (K' := K) (by rw [upd_ne ne]; exact q.at_) fun _ _ z => z.pokeA hp⟩)
theorem Ext.pokeA {ρ0 : List Addr} {H0 : Hp} (e : Ext K ρ0 H0 ρ H) (h0 : H0 p = none) (hp : Chg H p) : Ext K ρ0 H0 ρ (upd H p ho) where
  pre := e.pre
  tup := fun a xs h => sqt_chg hp (e.tup a xs h)
  fz := fun a o u h => fz_chg hp a o u (e.fz a o u h)
  oth := fun a o h n => by rw [upd_ne (ne_of_none h h0)]; exact e.oth a o h n
  new := e.new
  bk := fun a h => by
    by_cases z : a = p
    · rw [z]; exact h0
    · rw [upd_ne z] at h; exact e.bk a h
end
theorem RV.poke (hp : H p = some (.lst vs)) {d : D} {v : V} (h : RV K ρ H d v) : RV K ρ (upd H p (.lst ws)) d v := RV.mono0 (fun _ _ q => q) (fun a xs q => sqt_lst hp q) (fz_chg (.lst hp)) d v h
theorem RVs.poke (hp : H p = some (.lst vs)) {d : List D} {v : List V} (h : RVs K ρ H d v) : RVs K ρ (upd H p (.lst ws)) d v := RVs.mono0 (fun _ _ q => q) (fun a xs q => sqt_lst hp q) (fz_chg (.lst hp)) d v h
theorem RL.poke (hp : H p = some (.lst vs)) (h : RL K ρ H σ l) : RL K ρ (upd H p (.lst ws)) σ l := ⟨h.len, fun i d q => by
  obtain ⟨v, h1, h2⟩ := h.at_ i d q
  exact ⟨v, h1, h2.poke hp⟩⟩
theorem RS.poke (hp : H p = some (.lst vs)) (hn : p ∉ ρ) (h : RS K ρ H s) : RS K ρ (upd H p (.lst ws)) s := by
  refine ⟨h.len, h.nd, fun i o a h1 h2 => ?_⟩
  have q := h.ob i o a h1 h2
  have ne : a ≠ p := fun z => hn (by rw [← z]; exact List.mem_of_getElem? h2)
  cases o with
  | lst xs =>
    obtain ⟨us, q1, q2⟩ := q
    exact ⟨us, by rw [upd_ne ne]; exact q1, q2.poke hp⟩
  | dct kvs =>
    rcases q with ⟨us, q1, q2, q3⟩ | ⟨xs, vs, q⟩ | ⟨xs, vs, q⟩
    · exact .inl ⟨us, by rw [upd_ne ne]; exact q1, q2, q3.poke hp⟩
    · exact .inr (.inl ⟨xs, vs, q.imp (K' := K) (by rw [upd_ne ne]; exact q.at_) fun _ _ z => z.poke hp⟩)
    · exact .inr (.inr ⟨xs, vs, q.imp (K' := K) (by rw [upd_ne ne]; exact q.at_) fun _ _ z => z.poke hp⟩)
theorem Ext.poke {ρ0 : List Addr} {H0 : Hp} (e : Ext K ρ0 H0 ρ H) (h0 : H0 p = none) (hp : H p = some (.lst vs)) : Ext K ρ0 H0 ρ (upd H p (.lst ws)) where
  pre := e.pre
  tup := fun a xs h => sqt_lst hp (e.tup a xs h)
  fz := fun a o u h => fz_chg (.lst hp) a o u (e.fz a o u h)
  oth := fun a o h n => by rw [upd_ne (ne_of_none h h0)]; exact e.oth a o h n
  new := e.new
  bk := fun a h => by
    by_cases z : a = p
    · rw [z]; exact h0
    · rw [upd_ne z] at h; exact e.bk a h
end
end
end Nv

set_option Elab.async false
set_option linter.all false
set_option maxRecDepth 100000
set_option autoImplicit false
set_option maxHeartbeats 4000000
/-! NvMul: tuple * whole number, 0 and 1 too. -/
namespace Nv
open PySem PySem.Spec PyProof.Rows L2
theorem tuple_mul1 (l : Addr) (items : Array Value) (n : Nat) (dd : Option Addr) (sl : Array (Option Value)) (u : Tok) :
    Meets (Builtin.«tuple.__mul__» ⟨[.ref l, .int 1 u], []⟩) (fun _ R s => s.heap.get? l = some { cls := .type "tuple", dict := dd, data := .seq items n, slots := sl } ∧ R (.ok (.ret (Value.ref l))) s) :=
  .of_wp fun prog w A R s h => by
    obtain ⟨hp, g, d, tk, os⟩ := s
    obtain ⟨hl, h⟩ := h
    have f1 := AutoSeq1.idx_int
    have c1 : (items.isEmpty || (1 : Int) == 1) = true := by rw [Bool.or_eq_true]; exact .inr rfl
    wp_walk using wpAny_loadPart' hl
    repeat (first
      | (refine wpAny_ite_true (decide_eq_true (by first | rfl | exact c1)) ?_; wp_walk using wpAny_loadPart' hl)
      | (refine wpAny_ite_true c1 ?_; wp_walk using wpAny_loadPart' hl)
      | (refine wpAny_ite_true (by simp) ?_; wp_walk using wpAny_loadPart' hl)
      | (refine wpAny_ite_false (by simp) ?_; wp_walk using wpAny_loadPart' hl))
    exact ⟨_, rfl, h⟩
theorem tuple_mul0 (l : Addr) (items : Array Value) (n : Nat) (dd : Option Addr) (sl : Array (Option Value)) (u : Tok) (hi : items.isEmpty = false) :
    Meets (Builtin.«tuple.__mul__» ⟨[.ref l, .int 0 u], []⟩) (fun _ R s => s.heap.get? l = some { cls := .type "tuple", dict := dd, data := .seq items n, slots := sl } ∧
      R (.ok (.ret (Value.ref s.heap.objs.size))) { s with heap := s.heap.push { cls := Value.type "tuple", data := Data.seq #[] }, toks := s.toks }) :=
  .of_wp fun prog w A R s h => by
    obtain ⟨hp, g, d, tk, os⟩ := s
    obtain ⟨hl, h⟩ := h
    have f1 := AutoSeq1.idx_int
    have c1 : (items.isEmpty || (0 : Int) == 1) = false := by rw [hi]; rfl
    have c2 : (decide ((0 : Int) ≤ 0) || items.isEmpty) = true := by rw [hi]; rfl
    wp_walk using wpAny_loadPart' hl
    repeat (first
      | (refine wpAny_ite_false (decide_eq_false (by rw [c1]; exact Bool.false_ne_true)) ?_; wp_walk using wpAny_loadPart' hl)
      | (refine wpAny_ite_true (decide_eq_true c2) ?_; wp_walk using wpAny_loadPart' hl)
      | (refine wpAny_ite_false (by simp [hi]) ?_; wp_walk using wpAny_loadPart' hl)
      | (refine wpAny_ite_true (by simp [hi]) ?_; wp_walk using wpAny_loadPart' hl))
    exact ⟨_, rfl, h⟩
section
variable {X : Cx}
def rRep (K : PySem.W.Frag) : R2 := fun x y H Q => ∃ l k xs, x = .ref l ∧ y = .int k ∧ SqT K H l xs ∧ xs ≠ [] ∧ 0 ≤ k ∧ k ≤ 1000 ∧ xs.length ≤ 1000 ∧ (k = 1 → Q (.ref l) H) ∧ ∀ p, H p = none → Q (.ref p) (upd H p (.tup (List.replicate k.toNat xs).flatten))
theorem op_rep : OpR X (binaryOp .Mult) (rRep X.K) := by
  intro pins s σ H x y v u Q I rx ry h
  obtain ⟨l, k, xs, rfl, rfl, hT, hne, h0, h2, hz, q1, q⟩ := h
  by_cases hk : 2 ≤ k
  · exact op_repT pins s σ H _ _ v u Q I rx ry ⟨l, k, xs, rfl, rfl, hT, hne, hk, h2, hz, q⟩
  cases rx
  obtain ⟨t, rfl⟩ := ry
  obtain ⟨its, r, ⟨⟨cls, dd, data, sl⟩, ho, hc, n, hd⟩, hs⟩ := I.tuple hT
  simp only at hc hd
  subst hc hd
  have hle : its.length = xs.length := r.length.symm
  have hn : its ≠ [] := fun e => hne (by
    rw [e] at hle
    exact List.eq_nil_of_length_eq_zero hle.symm)
  have hi : its.toArray.isEmpty = false := by
    cases its with
    | nil => exact absurd rfl hn
    | cons a b => rfl
  have hk2 : k = 0 ∨ k = 1 := by omega
  rcases hk2 with rfl | rfl
  · refine wpAny_binaryOp_repeat_ref (T := "tuple") (U := "int") (by decide) ⟨_, ho, rfl⟩ (fun s' => typeIs_int s' 0 t) noFill_tuple_mul F.fills_int_mul F.slot_int_rmul repeat_tuple F.slot_int_index.lookup
      (call_meets F.slot_int_rmul (typeIs_int s 0 t) F.entry_int_rmul (F.args_int_rmul_2 _ _) (int_rmul_tuple 0 t l its.toArray n dd sl)
        ⟨ho, rfl, ⟨_, ho, rfl⟩, call_meets F.slot_tuple_mul ⟨_, ho, rfl⟩ F.entry_tuple_mul (F.args_tuple_mul_2 _ _) (tuple_mul0 l its.toArray n dd sl t hi) ⟨ho, ?_⟩⟩)
    have e : (List.replicate (0 : Int).toNat xs).flatten = [] := rfl
    rw [e] at q
    refine ⟨.ref s.heap.objs.size, _, I.laid (t' := s.toks) (o := .tup []) (fun b ob q => Heap.get?_push_of_some _ q) (Nat.le_refl _) ?_, rfl, q _ (I.hok.fresh (Nat.le_refl _))⟩
    exact ⟨Nat.zero_le _, [], .nil, IsTup.new _ _⟩
  · refine wpAny_binaryOp_repeat_ref (T := "tuple") (U := "int") (by decide) ⟨_, ho, rfl⟩ (fun s' => typeIs_int s' 1 t) noFill_tuple_mul F.fills_int_mul F.slot_int_rmul repeat_tuple F.slot_int_index.lookup
      (call_meets F.slot_int_rmul (typeIs_int s 1 t) F.entry_int_rmul (F.args_int_rmul_2 _ _) (int_rmul_tuple 1 t l its.toArray n dd sl)
        ⟨ho, rfl, ⟨_, ho, rfl⟩, call_meets F.slot_tuple_mul ⟨_, ho, rfl⟩ F.entry_tuple_mul (F.args_tuple_mul_2 _ _) (tuple_mul1 l its.toArray n dd sl t) ⟨ho, ?_⟩⟩)
    exact ⟨.ref l, H, I, rfl, q1 rfl⟩
end
end Nv

set_option Elab.async false
set_option linter.all false
set_option maxRecDepth 100000
set_option autoImplicit false
/-! NvOp: the operators keep what the interpreter says of them. -/
namespace Nv
open PySem PySem.Spec PyProof.Rows L2

/-- what is wanted of an exception -/
abbrev Wx := List Addr → Hp → D → Prop
/-- what is wanted behind a piece of the interpreter's run -/
def Post (K : Kw) (W : Wx) {α β : Type} (R : Hp → List Addr → Hp → α → β → Prop) (ρ : List Addr) (H : Hp) (Q : β → Hp → Prop) : Res α → Prop
  | .ok a s => ∀ ρ' H' v, Ext K ρ H ρ' H' → RS K ρ' H' s → R H ρ' H' a v → Q v H'
  | .ex x s => ∀ ρ' H', Ext K ρ H ρ' H' → RS K ρ' H' s → W ρ' H' x
  | .no => False
/-- a relation that holds from further back -/
def Bk (K : Kw) {α β : Type} (R : Hp → List Addr → Hp → α → β → Prop) : Prop :=
  ∀ (ρ : List Addr) (H : Hp) (ρ1 : List Addr) (H1 : Hp) (ρ' : List Addr) (H' : Hp) (a : α) (v : β), Ext K ρ H ρ1 H1 → R H1 ρ' H' a v → R H ρ' H' a v
section
variable {K : Kw} {W : Wx} {α β γ δ : Type} {R : Hp → List Addr → Hp → α → β → Prop} {R2 : Hp → List Addr → Hp → γ → δ → Prop} {ρ ρ1 : List Addr} {H H1 : Hp}
theorem Post.mono {Q : β → Hp → Prop} (b : Bk K R) (e : Ext K ρ H ρ1 H1) : ∀ {r : Res α}, Post K W R ρ H Q r → Post K W R ρ1 H1 Q r
  | .ok a s, h => fun ρ' H' v e' rs r => h ρ' H' v (e.trans e') rs (b _ _ _ _ _ _ _ _ e r)
  | .ex x s, h => fun ρ' H' e' rs => h ρ' H' (e.trans e') rs
  | .no, h => h
theorem Post.bind {Q : δ → Hp → Prop} {Q1 : β → Hp → Prop} {r : Res α} {f : α → Sto → Res γ} (b : Bk K R2) (h : Post K W R2 ρ H Q (r.bind f))
    (k : ∀ a s1 ρ1 H1 v, Ext K ρ H ρ1 H1 → RS K ρ1 H1 s1 → R H ρ1 H1 a v → Post K W R2 ρ1 H1 Q (f a s1) → Q1 v H1) : Post K W R ρ H Q1 r := by
  cases r with
  | ok a s => exact fun ρ' H' v e rs rr => k a s ρ' H' v e rs rr (Post.mono b e h)
  | ex x s => exact h
  | no => exact h
/-- .. the end told from further back -/
theorem Post.bindB {ρ0 : List Addr} {H0 : Hp} {Q : δ → Hp → Prop} {Q1 : β → Hp → Prop} {r : Res α} {f : α → Sto → Res γ} (e0 : Ext K ρ0 H0 ρ H) (h : Post K W R2 ρ0 H0 Q (r.bind f))
    (k : ∀ a s1 ρ1 H1 v, Ext K ρ H ρ1 H1 → RS K ρ1 H1 s1 → R H ρ1 H1 a v → Post K W R2 ρ0 H0 Q (f a s1) → Q1 v H1) : Post K W R ρ H Q1 r := by
  cases r with
  | ok a s => exact fun ρ' H' v e rs rr => k a s ρ' H' v e rs rr h
  | ex x s => exact fun ρ' H' e rs => h ρ' H' (e0.trans e) rs
  | no => exact h
theorem Post.imp {Q Q1 : β → Hp → Prop} (hQ : ∀ v H', Q v H' → Q1 v H') : ∀ {r : Res α}, Post K W R ρ H Q r → Post K W R ρ H Q1 r
  | .ok a s, h => fun ρ' H' v e' rs r => hQ _ _ (h ρ' H' v e' rs r)
  | .ex x s, h => h
  | .no, h => h
end
abbrev rRR (K : Kw) : Hp → List Addr → Hp → RD → V → Prop := RR K
abbrev rRV (K : Kw) : Hp → List Addr → Hp → D → V → Prop := fun _ ρ H d v => RV K ρ H d v
abbrev rRVs (K : Kw) : Hp → List Addr → Hp → List D → List V → Prop := fun _ ρ H d v => RVs K ρ H d v
abbrev rB : Hp → List Addr → Hp → Bool → Bool → Prop := fun _ _ _ a b => a = b
section
variable {K : Kw}
theorem bkRR : Bk K (rRR K) := fun ρ H ρ1 H1 ρ' H' a v e h => by
  cases a with
  | d x => exact h
  | l xs =>
    obtain ⟨a, vs, e1, e2, e3, e4, e5⟩ := h
    exact ⟨a, vs, e1, e2, e3, e4, e.bk a e5⟩
  | m kvs =>
    obtain ⟨a, e1, e2, e4, e5⟩ := h
    exact ⟨a, e1, e2, e4, e.bk a e5⟩
theorem bkRV : Bk K (rRV K) := fun _ _ _ _ _ _ _ _ _ h => h
theorem bkRVs : Bk K (rRVs K) := fun _ _ _ _ _ _ _ _ _ h => h
theorem bkB : Bk K rB := fun _ _ _ _ _ _ _ _ _ h => h
end

/-! ### reading -/
section
variable {K : Kw} {ρ : List Addr} {H H0 : Hp} {s : Sto}
/-! dicts -/
theorem rvs_nil {vs : List V} (h : RVs K ρ H [] vs) : vs = [] := by unfold RVs at h; exact h
theorem rvs_cons {d : D} {ds : List D} {vs : List V} (h : RVs K ρ H (d :: ds) vs) : ∃ v r, vs = v :: r ∧ RV K ρ H d v ∧ RVs K ρ H ds r := by unfold RVs at h; exact h
theorem keyK_D (k : Key) : keyK (keyD k) = some k := by cases k <;> rfl
theorem dlk_ok (k : Key) : ∀ {kvs : List (D × D)} {vs : List (Key × V)}, vs.map (fun p => keyD p.1) = kvs.map (·.1) → RVs K ρ H (kvs.map (·.2)) (vs.map (·.2)) → (∀ d, dlk kvs k = some d → ∃ v, valV vs k = some v ∧ RV K ρ H d v) ∧ (valV vs k).isSome = (dlk kvs k).isSome
  | [], vs, h1, _ => by
    have : vs = [] := by cases vs with | nil => rfl | cons _ _ => cases h1
    subst this
    exact ⟨fun d h => (by cases h), rfl⟩
  | (k0, d0) :: r, vs, h1, h2 => by
    cases vs with
    | nil => cases h1
    | cons v0 w =>
      obtain ⟨k1, v1⟩ := v0
      rw [List.map_cons, List.map_cons] at h1
      injection h1 with e1 h1
      have e1 : keyD k1 = k0 := e1
      subst e1
      rw [List.map_cons, List.map_cons] at h2
      obtain ⟨v, q, e, q1, q2⟩ := rvs_cons h2
      injection e with e3 e4
      have e3 : v1 = v := e3
      subst e3
      rw [← e4] at q2
      obtain ⟨i1, i2⟩ := dlk_ok k h1 q2
      by_cases hk : k1 = k
      · have a1 : dlk ((keyD k1, d0) :: r) k = some d0 := by unfold dlk; rw [List.find?_cons]; simp [keyK_D, hk]
        have a2 : valV ((k1, v1) :: w) k = some v1 := valV_pos hk
        rw [a1, a2]
        exact ⟨fun d h => (by cases h; exact ⟨v1, rfl, q1⟩), rfl⟩
      · have a1 : dlk ((keyD k1, d0) :: r) k = dlk r k := by unfold dlk; rw [List.find?_cons]; simp [keyK_D, hk]
        have a2 : valV ((k1, v1) :: w) k = valV w k := valV_neg hk
        rw [a1, a2]
        exact ⟨i1, i2⟩
theorem any_keys (k : Key) : ∀ {kvs : List (D × D)} {vs : List (Key × V)}, vs.map (fun p => keyD p.1) = kvs.map (·.1) → (vs.any fun p => decide (p.1 = k)) = kvs.any fun p => decide (keyK p.1 = some k)
  | [], vs, h => by
    cases vs with
    | nil => rfl
    | cons _ _ => cases h
  | p :: r, vs, h => by
    cases vs with
    | nil => cases h
    | cons q w =>
      rw [List.map_cons, List.map_cons] at h
      injection h with e1 h
      rw [List.any_cons, List.any_cons, any_keys k h, ← e1, keyK_D]
      simp
theorem rep_ok (k : Key) {d : D} {v : V} (hd : RV K ρ H d v) : ∀ {kvs : List (D × D)} {vs : List (Key × V)}, vs.map (fun p => keyD p.1) = kvs.map (·.1) → RVs K ρ H (kvs.map (·.2)) (vs.map (·.2)) →
    (vs.map fun p => if p.1 = k then (p.1, v) else p).map (fun p => keyD p.1) = (kvs.map fun p => if keyK p.1 = some k then (p.1, d) else p).map (·.1) ∧ RVs K ρ H ((kvs.map fun p => if keyK p.1 = some k then (p.1, d) else p).map (·.2)) ((vs.map fun p => if p.1 = k then (p.1, v) else p).map (·.2))
  | [], vs, h1, _ => by
    have : vs = [] := by cases vs with | nil => rfl | cons _ _ => cases h1
    subst this
    exact ⟨rfl, by show RVs _ _ _ [] _; unfold RVs; rfl⟩
  | (k0, d0) :: r, vs, h1, h2 => by
    cases vs with
    | nil => cases h1
    | cons v0 w =>
      obtain ⟨k1, v1⟩ := v0
      rw [List.map_cons, List.map_cons] at h1
      injection h1 with e1 h1
      have e1 : keyD k1 = k0 := e1
      subst e1
      rw [List.map_cons, List.map_cons] at h2
      obtain ⟨v2, q, e, q1, q2⟩ := rvs_cons h2
      injection e with e3 e4
      have e3 : v1 = v2 := e3
      subst e3
      rw [← e4] at q2
      obtain ⟨i1, i2⟩ := rep_ok k hd h1 q2
      by_cases hk : k1 = k
      · simp only [List.map_cons, keyK_D, hk, if_true] at i1 i2 ⊢
        refine ⟨by rw [i1], ?_⟩
        show RVs _ _ _ (_ :: _) _
        unfold RVs
        exact ⟨_, _, rfl, hd, i2⟩
      · have hk2 : ¬ (some k1 = some k) := fun z => hk (Option.some.inj z)
        simp only [List.map_cons, keyK_D, hk, hk2, if_false] at i1 i2 ⊢
        refine ⟨by rw [i1], ?_⟩
        show RVs _ _ _ (_ :: _) _
        unfold RVs
        exact ⟨_, _, rfl, q1, i2⟩
theorem dput_ok {k : Key} {d : D} {v : V} {kvs : List (D × D)} {vs : List (Key × V)} (hd : RV K ρ H d v) (h1 : vs.map (fun p => keyD p.1) = kvs.map (·.1)) (h2 : RVs K ρ H (kvs.map (·.2)) (vs.map (·.2))) :
    (putK vs k v).map (fun p => keyD p.1) = (dput kvs k d).map (·.1) ∧ RVs K ρ H ((dput kvs k d).map (·.2)) ((putK vs k v).map (·.2)) := by
  unfold putK dput
  rw [any_keys k h1]
  split
  · exact rep_ok k hd h1 h2
  · refine ⟨by rw [List.map_append, List.map_append, h1]; rfl, ?_⟩
    rw [List.map_append, List.map_append]
    refine h2.append ?_
    show RVs _ _ _ [d] [v]
    unfold RVs
    exact ⟨v, [], rfl, hd, by unfold RVs; rfl⟩
theorem zip_fst {α β : Type} : ∀ {ks : List α} {vs : List β}, ks.length = vs.length → (ks.zip vs).map (·.1) = ks ∧ (ks.zip vs).map (·.2) = vs
  | [], [], _ => ⟨rfl, rfl⟩
  | [], _ :: _, h => by cases h
  | _ :: _, [], h => by cases h
  | k :: ks, v :: vs, h => by
    obtain ⟨h1, h2⟩ := zip_fst (ks := ks) (vs := vs) (by simpa using h)
    exact ⟨by rw [List.zip_cons_cons, List.map_cons, h1], by rw [List.zip_cons_cons, List.map_cons, h2]⟩
/-- the dict that a result stands for -/
theorem anyD_ok {a : RD} {x : V} {kvs : List (D × D)} (rs : RS K ρ H s) (r : RR K H0 ρ H a x) (h : anyD s a = some kvs) : ∃ p : Addr, x = .ref p ∧ (ROb K ρ H p (.dct kvs) ∨ ∃ o vs, H p = some (.frz o (.dK vs)) ∧ vs.map (fun p => keyD p.1) = kvs.map (·.1) ∧ RVs K ρ H (kvs.map (·.2)) (vs.map (·.2))) := by
  unfold anyD at h
  split at h
  · cases h
    obtain ⟨p, rfl, h1, _⟩ := r
    exact ⟨p, rfl, .inl h1⟩
  · rename_i ks ds
    split at h
    · rename_i hl
      cases h
      obtain ⟨z1, z2⟩ := zip_fst hl
      unfold RR RV at r
      obtain ⟨p, o, vs, rfl, h1, h2, h3⟩ := r
      exact ⟨p, rfl, .inr ⟨o, vs, h1, by rw [z1]; exact h2, by rw [z2]; exact h3⟩⟩
    · cases h
  · rename_i i
    split at h
    · rename_i kvs' e
      cases h
      have hlt : i < ρ.length := by rw [rs.len]; exact (List.getElem?_eq_some_iff.mp e).1
      have q := rs.ob i _ _ e (List.getElem?_eq_getElem hlt)
      have r : RV K ρ H (.obj i) x := r
      unfold RV at r
      obtain ⟨a, rfl, ha⟩ := r
      rw [List.getElem?_eq_getElem hlt] at ha
      cases ha
      exact ⟨_, rfl, .inl q⟩
    · cases h
  · cases h
theorem dctAt_ok {a : RD} {x : V} {kvs : List (D × D)} (rs : RS K ρ H s) (r : RR K H0 ρ H a x) (h : dctAt s a = some kvs) : ∃ (p : Addr) (vs : List (Key × V)), x = .ref p ∧ Rd H p (.dK vs) ∧ vs.map (fun p => keyD p.1) = kvs.map (·.1) ∧ RVs K ρ H (kvs.map (·.2)) (vs.map (·.2)) := by
  unfold dctAt at h
  cases e : anyD s a with
  | none => rw [e] at h; cases h
  | some kvs' =>
    rw [e] at h
    have h : (if dK kvs' = true then some kvs' else none) = some kvs := h
    split at h
    · rename_i hk
      cases h
      obtain ⟨p, rfl, h1⟩ := anyD_ok rs r e
      rcases h1 with h1 | ⟨o, vs, h1, h2, h3⟩
      · obtain ⟨vs, q1, q2, q3⟩ := h1.dk hk
        exact ⟨p, vs, rfl, .inl q1, q2, q3⟩
      · exact ⟨p, vs, rfl, .inr ⟨o, h1⟩, h2, h3⟩
    · cases h
theorem keyR_ok {a : RD} {x : V} {k : Key} (r : RR K H0 ρ H a x) (h : keyR a = some k) : x = kV k := by
  unfold keyR at h
  split at h
  · rename_i d
    have r : RV K ρ H d x := r
    unfold keyK at h
    split at h
    · cases h
      unfold RV at r
      exact r
    · cases h
      unfold RV at r
      exact r
    · cases h
  · cases h
theorem lstAt_ok {i : Nat} {xs : List D} (rs : RS K ρ H s) (h : lstAt s i = some xs) : ∃ p vs, ρ[i]? = some p ∧ H p = some (.lst vs) ∧ RVs K ρ H xs vs := by
  unfold lstAt at h
  split at h
  · rename_i ys e
    cases h
    exact rs.lstAt e
  · cases h
theorem asL_ok {a : RD} {x : V} {xs : List D} (rs : RS K ρ H s) (r : RR K H0 ρ H a x) (h : asL s a = some xs) : ∃ p vs, x = .ref p ∧ SqL K H p vs ∧ RVs K ρ H xs vs := by
  unfold asL at h
  split at h
  · cases h
    obtain ⟨a, vs, e1, e2, e3, _⟩ := r
    exact ⟨a, vs, e1, SqL.of e2, e3⟩
  · cases h
    unfold RR RV at r
    obtain ⟨a, vs, e1, e2, e3⟩ := r
    exact ⟨a, vs, e1, e2.sql, e3⟩
  · unfold RR RV at r
    obtain ⟨a, e1, e2⟩ := r
    obtain ⟨p, vs, h1, h2, h3⟩ := lstAt_ok rs h
    rw [e2] at h1
    cases h1
    exact ⟨a, vs, e1, SqL.of h2, h3⟩
  · cases h
theorem asQ_ok {a : RD} {x : V} {xs : List D} (rs : RS K ρ H s) (r : RR K H0 ρ H a x) (h : asQ s a = some xs) : ∃ p vs, x = .ref p ∧ (SqL K H p vs ∨ SqT K H p vs) ∧ RVs K ρ H xs vs := by
  unfold asQ at h
  split at h
  · obtain ⟨p, vs, h1, h2, h3⟩ := asL_ok (s := s) rs r (show asL s (.l _) = some xs from h)
    exact ⟨p, vs, h1, .inl h2, h3⟩
  · obtain ⟨p, vs, h1, h2, h3⟩ := asL_ok (s := s) rs r (show asL s (.d (.lf _)) = some xs from h)
    exact ⟨p, vs, h1, .inl h2, h3⟩
  · obtain ⟨p, vs, h1, h2, h3⟩ := asL_ok (s := s) rs r (show asL s (.d (.obj _)) = some xs from h)
    exact ⟨p, vs, h1, .inl h2, h3⟩
  · cases h
    unfold RR RV at r
    obtain ⟨a, vs, e1, e2, e3⟩ := r
    exact ⟨a, vs, e1, .inr e2, e3⟩
  · cases h
mutual
theorem pyW_ok {g : Nat → Option PyData} (hg : ∀ (i : Nat) (a : Addr) (p : PyData), g i = some p → ρ[i]? = some a → Dp K H (.ref a) p) : ∀ (d : D) (v : V) (p : PyData), RV K ρ H d v → pyW g d = some p → Dp K H v p
  | .non, v, p, h, e => by
    unfold RV at h; unfold pyW at e; cases e; subst h; exact .non
  | .bl b, v, p, h, e => by
    unfold RV at h; unfold pyW at e; cases e; subst h; exact .bl b
  | .int b, v, p, h, e => by
    unfold RV at h; unfold pyW at e; cases e; subst h; exact .int b
  | .str b, v, p, h, e => by
    unfold RV at h; unfold pyW at e; cases e; subst h; exact .str b
  | .tup ds, v, p, h, e => by
    unfold RV at h
    unfold pyW at e
    obtain ⟨a, vs, rfl, h2, h3⟩ := h
    cases q : pyWs g ds with
    | none => rw [q] at e; cases e
    | some ps =>
      rw [q] at e
      cases e
      exact .tup h2 (pyWs_ok hg ds vs ps h3 q)
  | .lf ds, v, p, h, e => by
    unfold RV at h
    unfold pyW at e
    obtain ⟨a, vs, rfl, h2, h3⟩ := h
    cases q : pyWs g ds with
    | none => rw [q] at e; cases e
    | some ps =>
      rw [q] at e
      cases e
      exact .lst h2.sql (pyWs_ok hg ds vs ps h3 q)
  | .ld ks ds, v, p, h, e => by unfold pyW at e; cases e
  | .obj i, v, p, h, e => by
    unfold RV at h
    unfold pyW at e
    obtain ⟨a, rfl, h2⟩ := h
    exact hg i a p e h2
theorem pyWs_ok {g : Nat → Option PyData} (hg : ∀ (i : Nat) (a : Addr) (p : PyData), g i = some p → ρ[i]? = some a → Dp K H (.ref a) p) : ∀ (ds : List D) (vs : List V) (ps : List PyData), RVs K ρ H ds vs → pyWs g ds = some ps → DpAll K H vs ps
  | [], vs, ps, h, e => by
    unfold RVs at h
    unfold pyWs at e
    subst h
    cases e
    exact .nil
  | d :: ds, vs, ps, h, e => by
    unfold RVs at h
    unfold pyWs at e
    obtain ⟨v, r, rfl, h2, h3⟩ := h
    cases q : pyW g d with
    | none => rw [q] at e; cases e
    | some p =>
      rw [q] at e
      cases q2 : pyWs g ds with
      | none => rw [q2] at e; cases e
      | some pr =>
        rw [q2] at e
        cases e
        exact .cons (pyW_ok hg d v p h2 q) (pyWs_ok hg ds r pr h3 q2)
end
theorem mapM_ok {f : D → Option PyData} (hf : ∀ d v p, RV K ρ H d v → f d = some p → Dp K H v p) : ∀ {ds : List D} {vs : List V} {ps : List PyData}, RVs K ρ H ds vs → ds.mapM f = some ps → DpAll K H vs ps
  | [], vs, ps, h, e => by
    unfold RVs at h
    subst h
    rw [List.mapM_nil] at e
    cases e
    exact .nil
  | d :: ds, vs, ps, h, e => by
    unfold RVs at h
    obtain ⟨v, r, rfl, h2, h3⟩ := h
    rw [List.mapM_cons] at e
    cases q : f d with
    | none => rw [q] at e; cases e
    | some p =>
      rw [q] at e
      cases q2 : ds.mapM f with
      | none => rw [q2] at e; cases e
      | some pr =>
        rw [q2] at e
        cases e
        exact .cons (hf d v p h2 q) (mapM_ok hf h3 q2)
theorem pyN_ok (rs : RS K ρ H s) : ∀ (n : Nat) (d : D) (v : V) (p : PyData), RV K ρ H d v → pyN s n d = some p → Dp K H v p
  | 0, d, v, p, h, e => pyW_ok (fun i a p q => by cases q) d v p h e
  | n + 1, d, v, p, h, e => pyW_ok (fun i a p q ha => by
      split at q
      · rename_i xs ex
        cases q2 : xs.mapM (pyN s n) with
        | none => rw [q2] at q; cases q
        | some ps =>
          rw [q2] at q
          cases q
          obtain ⟨p2, vs, h1, h2, h3⟩ := rs.lstAt ex
          rw [ha] at h1
          cases h1
          exact .lst (SqL.of h2) (mapM_ok (pyN_ok rs n) h3 q2)
      · cases q) d v p h e
theorem pyR_ok {a : RD} {x : V} {p : PyData} (rs : RS K ρ H s) (r : RR K H0 ρ H a x) (h : pyR s a = some p) : Dp K H x p := by
  cases a with
  | d y => exact pyN_ok rs 3 y x p r h
  | l xs =>
    obtain ⟨a, vs, rfl, h2, h3, _⟩ := r
    unfold pyR at h
    simp only at h
    cases q2 : xs.mapM (pyN s 2) with
    | none => rw [q2] at h; cases h
    | some ps =>
      rw [q2] at h
      cases h
      exact .lst (SqL.of h2) (mapM_ok (pyN_ok rs 2) h3 q2)
  | m kvs => unfold pyR at h; cases h
end

/-! ### operators -/
/-- an operation of the interpreter as a rule -/
def rOp (K : Kw) (W : Wx) (op : Sto → RD → RD → Option RD) : R2 := fun x y H Q => ∃ H0 H0' ρ s a b, RS K ρ H s ∧ RR K H0 ρ H a x ∧ RR K H0' ρ H b y ∧ Post K W (rRR K) ρ H Q (ofO (op s a b) s)
/-- a comparison of the interpreter as a rule -/
def rCp (K : Kw) (op : Sto → RD → RD → Option Bool) : R2 := fun x y H Q => ∃ H0 H0' ρ s a b t, RS K ρ H s ∧ RR K H0 ρ H a x ∧ RR K H0' ρ H b y ∧ op s a b = some t ∧ Q (.bl t) H
section
variable {X : Cx} {W : Wx}
theorem post_int {K : Kw} {ρ : List Addr} {H : Hp} {s : Sto} {Q : VK} {k : Int} (rs : RS K ρ H s) (h : Post K W (rRR K) ρ H Q (.ok (.d (.int k)) s)) : Q (.int k) H :=
  h ρ H (.int k) .refl rs (by show RV _ _ _ _ _; unfold RV; rfl)
theorem post_laid {K : Kw} {ρ : List Addr} {H : Hp} {s : Sto} {Q : VK} {xs : List D} {vs : List V} (rs : RS K ρ H s) (r : RVs K ρ H xs vs) (h : Post K W (rRR K) ρ H Q (.ok (.l xs) s)) {p : Addr} (hp : H p = none) : Q (.ref p) (upd H p (.lst vs)) :=
  h ρ _ (.ref p) (Ext.laid hp) (rs.laid hp) ⟨p, vs, rfl, upd_same, RVs.mono (Ext.laid hp) xs vs r, rs.fresh hp, hp⟩
theorem post_tup {K : Kw} {ρ : List Addr} {H : Hp} {s : Sto} {Q : VK} {xs : List D} {vs : List V} (rs : RS K ρ H s) (r : RVs K ρ H xs vs) (h : Post K W (rRR K) ρ H Q (.ok (.d (.tup xs)) s)) {p : Addr} (hp : H p = none) : Q (.ref p) (upd H p (.tup vs)) :=
  h ρ _ (.ref p) (Ext.laid hp) (rs.laid hp) (by
    show RV _ _ _ _ _
    unfold RV
    exact ⟨p, vs, rfl, SqT.of upd_same, RVs.mono (Ext.laid hp) xs vs r⟩)
theorem post_val {K : Kw} {ρ : List Addr} {H : Hp} {s : Sto} {Q : VK} {d : D} {v : V} (rs : RS K ρ H s) (h : Post K W (rRR K) ρ H Q (.ok (.d d) s)) (r : RV K ρ H d v) : Q v H := h ρ H v .refl rs r
theorem rv_int {K : Kw} {ρ : List Addr} {H : Hp} {i : Int} {v : V} : RV K ρ H (.int i) v ↔ v = .int i := by unfold RV; exact Iff.rfl
theorem rv_str {K : Kw} {ρ : List Addr} {H : Hp} {i : Str} {v : V} : RV K ρ H (.str i) v ↔ v = .str i := by unfold RV; exact Iff.rfl
theorem rv_bl {K : Kw} {ρ : List Addr} {H : Hp} {i : Bool} {v : V} : RV K ρ H (.bl i) v ↔ v = .bl i := by unfold RV; exact Iff.rfl
theorem rv_non {K : Kw} {ρ : List Addr} {H : Hp} {v : V} : RV K ρ H .non v ↔ v = .non := by unfold RV; exact Iff.rfl
theorem rv_tup {K : Kw} {ρ : List Addr} {H : Hp} {ds : List D} {v : V} : RV K ρ H (.tup ds) v ↔ ∃ a vs, v = .ref a ∧ SqT K H a vs ∧ RVs K ρ H ds vs := by
  constructor
  · intro h; unfold RV at h; exact h
  · intro h; unfold RV; exact h
theorem rr_int {K : Kw} {ρ : List Addr} {H H0 : Hp} {i : Int} {v : V} (h : RR K H0 ρ H (.d (.int i)) v) : v = .int i := by unfold RR RV at h; exact h
theorem rr_str {K : Kw} {ρ : List Addr} {H H0 : Hp} {i : Str} {v : V} (h : RR K H0 ρ H (.d (.str i)) v) : v = .str i := by unfold RR RV at h; exact h
theorem rr_bl {K : Kw} {ρ : List Addr} {H H0 : Hp} {i : Bool} {v : V} (h : RR K H0 ρ H (.d (.bl i)) v) : v = .bl i := by unfold RR RV at h; exact h
theorem rr_non {K : Kw} {ρ : List Addr} {H H0 : Hp} {v : V} (h : RR K H0 ρ H (.d .non) v) : v = .non := by unfold RR RV at h; exact h
theorem rr_tup {K : Kw} {ρ : List Addr} {H H0 : Hp} {ds : List D} {v : V} (h : RR K H0 ρ H (.d (.tup ds)) v) : ∃ a vs, v = .ref a ∧ SqT K H a vs ∧ RVs K ρ H ds vs := by unfold RR RV at h; exact h
theorem asM_ok {K : Kw} {ρ : List Addr} {H H0 : Hp} {s : Sto} {a : RD} {x : V} {xs : List D} (rs : RS K ρ H s) (r : RR K H0 ρ H a x) (h : asM s a = some xs) : ∃ p vs, x = .ref p ∧ H p = some (.lst vs) ∧ RVs K ρ H xs vs := by
  unfold asM at h
  split at h
  · cases h
    obtain ⟨a, vs, e1, e2, e3, _⟩ := r
    exact ⟨a, vs, e1, e2, e3⟩
  · unfold RR RV at r
    obtain ⟨a, e1, e2⟩ := r
    obtain ⟨p, vs, h1, h2, h3⟩ := lstAt_ok rs h
    rw [e2] at h1
    cases h1
    exact ⟨a, vs, e1, h2, h3⟩
  · cases h
/-- list + list, what may be read alone too -/
def rCatF (K : PySem.W.Frag) : R2 := fun x y H Q => ∃ l b xs zs, x = .ref l ∧ y = .ref b ∧ SqL K H l xs ∧ SqL K H b zs ∧ xs.length + zs.length ≤ sizeLine ∧ ∀ p, H p = none → Q (.ref p) (upd H p (.lst (xs ++ zs)))
theorem op_catF : OpR X (binaryOp .Add) (rCatF X.K) := by
  intro pins s σ H x y v u Q I rx ry h
  obtain ⟨l, b, xs, zs, rfl, rfl, hH, hB, hz, q⟩ := h
  cases rx
  cases ry
  obtain ⟨its, r, ⟨o1, n, e, c1, d1, t1⟩, _⟩ := I.list hH
  obtain ⟨its2, r2, ⟨o2, n2, e2, c2, d2, t2⟩, _⟩ := I.list hB
  obtain ⟨k1, dd1, dt1, sl1⟩ := o1
  obtain ⟨k2, dd2, dt2, sl2⟩ := o2
  cases c1
  cases c2
  cases t1
  cases t2
  have h1 := r.length
  have h2 := r2.length
  have hz2 : its.toArray.size + its2.toArray.size ≤ sizeLine := by rw [List.size_toArray, List.size_toArray]; omega
  refine concat_meets ⟨_, e, rfl⟩ ⟨_, e2, rfl⟩ noFill_list_add seq_list_add PySem.F.slot_list_add PySem.F.entry_list_add (PySem.F.args_list_add_2 _ _) (list_addW l b its.toArray its2.toArray n n2 dd1 dd2 sl1 sl2 hz2) ⟨e, e2, ?_⟩
  have ea : its.toArray ++ its2.toArray = (its ++ its2).toArray := by simp
  rw [ea]
  exact ⟨.ref _, _, I.lnew (t' := s.toks) (r.append r2) (by rw [List.length_append]; omega), rfl, q _ I.fresh⟩
theorem op_ints (o : Bop) {pins : List (Addr × Obj)} {s : Shared} {σ : L2.St} {H : Hp} {i j : Int} {v u : Value} {Q : VK} (I : Inv X pins σ H s) (rx : RelV (.int i) v) (ry : RelV (.int j) u)
    {k : Int} (hk : binI o i j = some k) (q : Q (.int k) H) : wpAny (model X.prog X.w) X.A (binaryOp o.op v u) (EP X pins σ Q) X.xe s := by
  cases o with
  | add => cases hk; exact op_add pins s σ H _ _ v u Q I rx ry ⟨i, j, rfl, rfl, q⟩
  | sub => cases hk; exact op_sub pins s σ H _ _ v u Q I rx ry ⟨i, j, rfl, rfl, q⟩
  | mul =>
    unfold binI at hk
    simp only at hk
    split at hk
    · rename_i c
      cases hk
      rcases c with c | c
      · exact op_mul pins s σ H _ _ v u Q I rx ry ⟨i, j, rfl, rfl, c, q⟩
      · exact op_mulW pins s σ H _ _ v u Q I rx ry ⟨i, j, rfl, rfl, c, q⟩
    · cases hk
  | fdiv =>
    unfold binI at hk
    simp only at hk
    split at hk
    · rename_i c
      cases hk
      rcases c with c | c
      · exact op_fdivN pins s σ H _ _ v u Q I rx ry ⟨i, j, rfl, rfl, c, q⟩
      · refine op_fdivW pins s σ H _ _ v u Q I rx ry ⟨i, j, rfl, rfl, c, ?_⟩
        show Q (.int (i / j)) H
        rw [← Int.fdiv_eq_ediv_of_nonneg i (Int.le_of_lt c.1)]
        exact q
    · cases hk
  | mod =>
    unfold binI at hk
    simp only at hk
    split at hk
    · rename_i c; cases hk; exact op_modN pins s σ H _ _ v u Q I rx ry ⟨i, j, rfl, rfl, c, q⟩
    · cases hk
  | pow =>
    unfold binI at hk
    simp only at hk
    split at hk
    · rename_i c; cases hk; exact op_pow pins s σ H _ _ v u Q I rx ry ⟨i, j, rfl, rfl, c, q⟩
    · cases hk
theorem op_bin (o : Bop) : OpR X (binaryOp o.op) (rOp X.kw W (binR o)) := by
  intro pins s σ H x y v u Q I rx ry h
  obtain ⟨H0, H0', ρ, st, a, b, rs, ra, rb, h⟩ := h
  unfold binR at h
  split at h
  · rename_i i j
    cases rr_int ra
    cases rr_int rb
    cases hk : binI o i j with
    | none => rw [hk] at h; exact h.elim
    | some k =>
      rw [hk] at h
      exact op_ints o I rx ry hk (post_val rs h (rv_int.mpr rfl))
  · rename_i i j
    cases rr_str ra
    cases rr_str rb
    split at h
    · rename_i c
      obtain ⟨rfl, hz⟩ := c
      exact op_add_str pins s σ H _ _ v u Q I rx ry ⟨i, j, rfl, rfl, hz, post_val rs h (rv_str.mpr rfl)⟩
    · exact h.elim
  · rename_i ds es
    obtain ⟨p, vs, rfl, h1, h2⟩ := rr_tup ra
    obtain ⟨q, us, rfl, h3, h4⟩ := rr_tup rb
    split at h
    · rename_i c
      subst c
      unfold catR at h
      split at h
      · rename_i hz
        have r12 := RVs.append h2 h4
        refine op_catA pins s σ H _ _ v u Q I rx ry ⟨p, q, vs, us, rfl, rfl, h1, h3, by rw [h2.length, h4.length]; exact hz, fun e => ?_, fun _ e => ?_, fun _ _ t ht => ?_⟩
        · refine post_val rs h (rv_tup.mpr ⟨q, us, rfl, h3, ?_⟩)
          subst e
          exact r12
        · refine post_val rs h (rv_tup.mpr ⟨p, vs, rfl, h1, ?_⟩)
          subst e
          rw [List.append_nil] at r12
          exact r12
        · exact post_tup rs r12 h ht
      · exact h.elim
    · exact h.elim
  · rename_i ds k
    obtain ⟨p, vs, rfl, h1, h2⟩ := rr_tup ra
    cases rr_int rb
    split at h
    · rename_i c
      obtain ⟨rfl, c1, c2, c3, c4⟩ := c
      have hrep : ∀ n : Nat, RVs X.kw ρ H (List.replicate n ds).flatten (List.replicate n vs).flatten := fun n => by
        induction n with
        | zero => exact .nil_
        | succ n ih => rw [List.replicate_succ, List.replicate_succ, List.flatten_cons, List.flatten_cons]; exact RVs.append h2 ih
      refine op_rep pins s σ H _ _ v u Q I rx ry ⟨p, k, vs, rfl, rfl, h1, fun e => c1 ?_, c2, c3, by rw [h2.length]; exact c4, fun e => ?_, fun t ht => post_tup rs (hrep _) h ht⟩
      · subst e
        cases ds with
        | nil => rfl
        | cons _ _ => have := h2.length; cases this
      · subst e
        have e1 : (List.replicate (1 : Int).toNat ds).flatten = ds := by simp
        rw [e1] at h
        exact post_val rs h (rv_tup.mpr ⟨p, vs, rfl, h1, h2⟩)
    · exact h.elim
  · split at h
    · rename_i xs ys ex ey
      split at h
      · rename_i c
        subst c
        unfold catR at h
        split at h
        · rename_i hz
          obtain ⟨p, vs, rfl, h1, h2⟩ := asL_ok rs ra ex
          obtain ⟨q, us, rfl, h3, h4⟩ := asL_ok rs rb ey
          exact op_catF pins s σ H _ _ v u Q I rx ry ⟨p, q, vs, us, rfl, rfl, h1, h3, by rw [h2.length, h4.length]; exact hz, fun t ht => post_laid rs (RVs.append h2 h4) h ht⟩
        · exact h.elim
      · exact h.elim
    · exact h.elim
/-! comparisons -/
theorem eqE_ok {K : Kw} {ρ : List Addr} {H H0 H0' : Hp} {a b : RD} {x y : V} {t : Bool} (ra : RR K H0 ρ H a x) (rb : RR K H0' ρ H b y) (h : eqE a b = some t) :
    ∃ p q vs, x = .ref p ∧ y = .ref q ∧ SqT K H p vs ∧ SqT K H q [] ∧ t = vs.isEmpty := by
  unfold eqE at h
  split at h
  · rename_i xs
    cases h
    obtain ⟨p, vs, rfl, h1, h2⟩ := rr_tup ra
    obtain ⟨q, us, rfl, h3, h4⟩ := rr_tup rb
    cases rvs_nil h4
    refine ⟨p, q, vs, rfl, rfl, h1, h3, ?_⟩
    have := h2.length
    cases xs <;> cases vs <;> first | rfl | cases this
  · cases h
theorem eqR_ok {K : Kw} {ρ : List Addr} {H H0 H0' : Hp} {s : Sto} {a b : RD} {x y : V} {t : Bool} (rs : RS K ρ H s) (ra : RR K H0 ρ H a x) (rb : RR K H0' ρ H b y) (h : eqR s a b = some t) :
    (∃ d e, Dp K H x d ∧ Dp K H y e ∧ SeqAt.shaped d = true ∧ SeqAt.shaped e = true ∧ t = PyData.eqv d e) ∨ ∃ p q vs, x = .ref p ∧ y = .ref q ∧ SqT K H p vs ∧ SqT K H q [] ∧ t = vs.isEmpty := by
  unfold eqR at h
  split at h
  · rename_i p q ep eq
    split at h
    · rename_i c
      cases h
      exact .inl ⟨p, q, pyR_ok rs ra ep, pyR_ok rs rb eq, c.1, c.2, rfl⟩
    · exact .inr (eqE_ok ra rb h)
  · exact .inr (eqE_ok ra rb h)
/-- a tuple against () -/
theorem eq_none {neg : Bool} {pins : List (Addr × Obj)} {s : Shared} {σ : L2.St} {H : Hp} {p q : Addr} {vs : List V} {Q : VK} (hu : X.A.units + 65 < cLine) (I : Inv X pins σ H s)
    (hp : SqT X.K H p vs) (hq : SqT X.K H q []) (h : Q (.bl (if neg then !vs.isEmpty else vs.isEmpty)) H) :
    wpAny (model X.prog X.w) X.A (compareOp (if neg then .NotEq else .Eq) (.ref p) (.ref q)) (EP X pins σ Q) X.xe s := by
  obtain ⟨its, rv, ⟨o, h1, h2, n, h3⟩, _⟩ := I.tuple hp
  obtain ⟨js, rw_, ⟨o', k1, k2, n', k3⟩, _⟩ := I.tuple hq
  have hl : s.heap.IsTuple p its.toArray := ⟨o, h1, h2, n, h3⟩
  have hb : s.heap.IsTuple q js.toArray := ⟨o', k1, k2, n', k3⟩
  have hj : js = [] := by cases rw_; rfl
  subst hj
  have hv : vs.isEmpty = (its.toArray.size == 0) := by
    have := rv.length
    cases its <;> cases vs <;> first | rfl | cases this
  have hc : X.A.units < cLine := by omega
  have he : ∀ j (h1 : j < its.toArray.size) (h2 : j < (([] : List Value).toArray).size), SeqAt.EqAt X.A.in1 s its.toArray[j] ([] : List Value).toArray[j] ((fun _ => true) j) := fun j _ h2 => absurd h2 (by simp)
  have hz : ((List.range (min its.toArray.size (([] : List Value).toArray).size)).all (fun _ => true) && its.toArray.size == (([] : List Value).toArray).size) = vs.isEmpty := by
    rw [hv]
    simp
  cases neg with
  | false => exact SeqAt.eq_tupleAt hl hb hc he ⟨.bl _, H, I, rfl, by rw [hz]; exact h⟩
  | true =>
    have r := SeqAt.RcNeAt.tuples hl hb hc he
    rw [hz] at r
    exact r X.prog X.w X.xe (EP X pins σ Q) ⟨.bl _, H, I, rfl, h⟩
theorem inR_ok {K : Kw} {ρ : List Addr} {H H0 H0' : Hp} {s : Sto} {a b : RD} {x y : V} {t : Bool} (rs : RS K ρ H s) (ra : RR K H0 ρ H a x) (rb : RR K H0' ρ H b y) (h : inR s a b = some t) :
    (∃ i j, x = .str i ∧ y = .str j ∧ t = strIn i j) ∨ ∃ d qs p vs, Dp K H x d ∧ y = .ref p ∧ (SqL K H p vs ∨ SqT K H p vs) ∧ DpAll K H vs qs ∧ SeqAt.shaped d = true ∧ SeqAt.shaped (.list qs) = true ∧ t = qs.any fun z => PyData.eqv z d := by
  unfold inR at h
  split at h
  · rename_i i j
    cases h
    exact .inl ⟨i, j, rr_str ra, rr_str rb, rfl⟩
  · split at h
    · rename_i qs p eq ep
      split at h
      · rename_i c
        cases h
        cases e : asQ s b with
        | none => rw [e] at eq; cases eq
        | some ys =>
          rw [e] at eq
          obtain ⟨l, vs, h1, h2, h3⟩ := asQ_ok rs rb e
          exact .inr ⟨p, qs, l, vs, pyR_ok rs ra ep, h1, h2, mapM_ok (pyN_ok rs 2) h3 eq, c.1, c.2, rfl⟩
      · cases h
    · cases h
theorem in_tup {neg : Bool} {pins : List (Addr × Obj)} {s : Shared} {σ : L2.St} {H : Hp} {x : V} {v : Value} {d : PyData} {qs : List PyData} {p : Addr} {vs : List V} {Q : VK} (hu : X.A.units + 65 < cLine) (I : Inv X pins σ H s) (rx : RelV x v) (hd : Dp X.K H x d)
    (hq : SqT X.K H p vs) (hv : DpAll X.K H vs qs) (sd : SeqAt.shaped d = true) (sq : SeqAt.shaped (.list qs) = true) (q : Q (.bl (if neg then !(qs.any fun z => PyData.eqv z d) else qs.any fun z => PyData.eqv z d)) H) :
    wpAny (model X.prog X.w) X.A (compareOp (if neg then .NotIn else .In) v (.ref p)) (EP X pins σ Q) X.xe s := by
  obtain ⟨as, r1⟩ := Dp.reads I d x v hd rx
  obtain ⟨its, rv, ⟨o, ho, hc, n, hdd⟩, _⟩ := I.tuple hq
  obtain ⟨bs, r2⟩ := Dp.readsAll I qs _ its hv rv
  have hlay : PyData.canLayAll0 qs = true := by
    have := SeqAt.canLay_of_shaped sq
    simpa [PyData.canLay0] using this
  cases neg with
  | false => exact SeqAt.in_tuple_reads (Reads.tuple ho hc hdd r2) r1 hlay (SeqAt.canLay_of_shaped sd) (room_in_shaped sd hu) ⟨.bl _, H, I, rfl, q⟩
  | true => exact SeqAt.notIn_tuple_reads (Reads.tuple ho hc hdd r2) r1 hlay (SeqAt.canLay_of_shaped sd) (room_in_shaped sd hu) ⟨.bl _, H, I, rfl, q⟩
theorem isR_ok {K : Kw} {ρ : List Addr} {H H0 H0' : Hp} {a b : RD} {x y : V} {t : Bool} (ra : RR K H0 ρ H a x) (rb : RR K H0' ρ H b y) (h : isR a b = some t) : (y = .non ∧ t = decide (x = .non)) ∨ ∃ i j : Bool, x = .bl i ∧ y = .bl j ∧ t = decide (i = j) := by
  unfold isR at h
  split at h
  · rename_i d
    refine .inl ⟨rr_non rb, ?_⟩
    have ra' : RV K ρ H d x := ra
    cases d with
    | non => cases h; cases rv_non.mp ra'; rfl
    | bl _ => cases h; cases rv_bl.mp ra'; rfl
    | int _ => cases h; cases rv_int.mp ra'; rfl
    | str _ => cases h; cases rv_str.mp ra'; rfl
    | tup _ => cases h; obtain ⟨_, _, rfl, _⟩ := rv_tup.mp ra'; rfl
    | lf _ => cases h; unfold RV at ra'; obtain ⟨_, _, rfl, _⟩ := ra'; rfl
    | ld _ _ => cases h; unfold RV at ra'; obtain ⟨_, _, _, rfl, _⟩ := ra'; rfl
    | obj _ => cases h; unfold RV at ra'; obtain ⟨_, rfl, _⟩ := ra'; rfl
  · cases h
    obtain ⟨_, _, rfl, _⟩ := ra
    exact .inl ⟨rr_non rb, rfl⟩
  · cases h
    exact .inr ⟨_, _, rr_bl ra, rr_bl rb, rfl⟩
  · cases h
/-! ### == of dicts -/
theorem hits_eq {X : Cx} {pins : List (Addr × Obj)} {σ : L2.St} {H : Hp} {s : Shared} {A : Around} {vb : List (Key × Value)} (I : Inv X pins σ H s) : ∀ {vs ws : List (Key × V)} {va vb' : List (Key × Value)} {ps qs : List PyData}, KV vs va → KV ws vb' → vs.map (·.1) = ws.map (·.1) → DpAll X.kw H (vs.map (·.2)) ps → DpAll X.kw H (ws.map (·.2)) qs → (∀ p ∈ ps, SeqAt.shaped p = true) → (∀ q ∈ qs, SeqAt.shaped q = true) → A.in1.units + 64 < cLine → (∀ e ∈ vb', valueAt vb e.1 = some e.2) →
    PySem.W.KeqHits A.in1 s vb va (PyData.eqvAll ps qs)
  | [], [], va, vb', ps, qs, ka, kb, _, dp, dq, _, _, _, _ => by
    cases ka
    cases dp
    cases dq
    exact .nil
  | _ :: _, [], _, _, _, _, _, _, h, _, _, _, _, _, _ => by cases h
  | [], _ :: _, _, _, _, _, _, _, h, _, _, _, _, _, _ => by cases h
  | x :: vs, y :: ws, va, vb', ps, qs, ka, kb, h, dp, dq, hp, hq, hu, hv => by
    rw [List.map_cons, List.map_cons] at h
    injection h with h1 h2
    rw [List.map_cons] at dp dq
    cases ka with
    | cons a1 a2 =>
      rename_i p1 va
      cases kb with
      | cons b1 b2 =>
        rename_i p2 vb'
        cases dp with
        | cons d1 d2 =>
          cases dq with
          | cons c1 c2 =>
            obtain ⟨as, r1⟩ := Dp.reads I _ _ _ d1 a1.2
            obtain ⟨bs, r2⟩ := Dp.reads I _ _ _ c1 b1.2
            have e := PySem.W.keq_at (A := A) r1 r2 (hp _ (.head _)) (hq _ (.head _)) hu
            have hk : p1.1 = p2.1 := by rw [← a1.1, ← b1.1]; exact h1
            obtain ⟨k1, v1⟩ := p1
            obtain ⟨k2, v2⟩ := p2
            have hk : k1 = k2 := hk
            subst hk
            have ih := hits_eq (A := A) (vb := vb) I a2 b2 h2 d2 c2 (fun z hz => hp z (.tail _ hz)) (fun z hz => hq z (.tail _ hz)) hu fun e he => hv e (.tail _ he)
            exact .hit (hv _ (.head _)) e ih
theorem lay_mem : ∀ {ps : List PyData}, PyData.canLayAll0 ps = true → ∀ p ∈ ps, PyData.canLay0 p = true ∧ PyData.depth p ≤ PyData.depthAll ps
  | p :: r, h => fun z hz => by
    unfold PyData.canLayAll0 at h
    rw [Bool.and_eq_true] at h
    unfold PyData.depthAll
    rcases List.mem_cons.mp hz with rfl | hz
    · exact ⟨h.1, Nat.le_max_left _ _⟩
    · obtain ⟨h1, h2⟩ := lay_mem h.2 z hz
      exact ⟨h1, Nat.le_trans h2 (Nat.le_max_right _ _)⟩
  | [], _ => fun z hz => by cases hz
theorem shaped_mem {ps : List PyData} (h : SeqAt.shaped (.list ps) = true) : ∀ p ∈ ps, SeqAt.shaped p = true := by
  have c := SeqAt.canLay_of_shaped h
  have r := SeqAt.depth_of_shaped h
  unfold PyData.canLay0 at c
  unfold PyData.depth at r
  intro p hp
  obtain ⟨h1, h2⟩ := lay_mem c p hp
  unfold SeqAt.shaped
  rw [h1, Bool.true_and]
  exact decide_eq_true (by omega)
theorem deq_ok {X : Cx} {pins : List (Addr × Obj)} {σ : L2.St} {H H0 H0' : Hp} {s : Shared} {ρ : List Addr} {st : Sto} {a b : RD} {x y : V} {t : Bool} (hu : X.A.units + 65 < cLine) (I : Inv X pins σ H s) (rs : RS X.kw ρ H st) (ra : RR X.kw H0 ρ H a x) (rb : RR X.kw H0' ρ H b y) (h : deqR st a b = some t) :
    ∃ (p q : Addr) (va vb : List (Key × Value)), x = .ref p ∧ y = .ref q ∧ (p == sysModules) = false ∧ (q == sysModules) = false ∧ s.heap.DictOf (mixKind X.prog X.w) p va ∧ s.heap.DictOf (mixKind X.prog X.w) q vb ∧ va.length = vb.length ∧ PySem.W.KeqHits X.A.in1 s vb va t := by
  unfold deqR at h
  split at h
  · rename_i ka kb e1 e2
    split at h
    · rename_i ps qs e3 e4
      split at h
      · rename_i hk
        obtain ⟨hk, sp, sq⟩ := hk
        cases h
        obtain ⟨p, vs, rfl, hp, g1, g2⟩ := dctAt_ok rs ra e1
        obtain ⟨q, ws, rfl, hq, g3, g4⟩ := dctAt_ok rs rb e2
        obtain ⟨_, y1, va, k1, d1⟩ := dk_rd I.hok hp
        obtain ⟨_, y2, vb, k2, d2⟩ := dk_rd I.hok hq
        have kk : ∀ {vs : List (Key × V)} {ks : List (D × D)}, vs.map (fun p => keyD p.1) = ks.map (·.1) → ks.map (fun p => keyK p.1) = vs.map fun p => some p.1 := by
          intro vs
          induction vs with
          | nil => intro ks q; cases ks with | nil => rfl | cons _ _ => cases q
          | cons v vs ih =>
            intro ks q
            cases ks with
            | nil => cases q
            | cons z zs =>
              rw [List.map_cons, List.map_cons] at q
              injection q with q1 q2
              rw [List.map_cons, List.map_cons, ih q2, ← q1]
              obtain ⟨kv, vv⟩ := v
              cases kv <;> rfl
        have hkeys : vs.map (·.1) = ws.map (·.1) := by
          rw [kk g1, kk g3] at hk
          have : (vs.map (·.1)).map some = (ws.map (·.1)).map some := by rw [List.map_map, List.map_map]; exact hk
          exact (List.map_inj_right (fun _ _ e => Option.some.inj e)).mp this
        have hl : va.length = vb.length := by
          rw [← k1.length, ← k2.length]
          have := congrArg List.length hkeys
          rwa [List.length_map, List.length_map] at this
        refine ⟨p, q, va, vb, rfl, rfl, y1, y2, d1, d2, hl, ?_⟩
        refine hits_eq I k1 k2 hkeys (mapM_ok (pyN_ok rs 3) g2 e3) (mapM_ok (pyN_ok rs 3) g4 e4) (shaped_mem sp) (shaped_mem sq) (by show X.A.units + 1 + 64 < cLine; omega) fun e he => ?_
        obtain ⟨_, _, _, _, _, _, _, _, nd⟩ := d2
        obtain ⟨i, hi⟩ := List.mem_iff_getElem?.mp he
        exact valueAt_of_get nd hi
      · cases h
    · cases h
  · cases h
theorem op_cmp (o : Cop) (hu : X.A.units + 65 < cLine) : OpR X (compareOp o.op) (rCp X.kw (cmpR o)) := by
  intro pins s σ H x y v u Q I rx ry h
  obtain ⟨H0, H0', ρ, st, a, b, t, rs, ra, rb, h, q⟩ := h
  have hlt : ∀ {a b : RD} {t : Bool}, ltR a b = some t → (∃ i j, a = .d (.int i) ∧ b = .d (.int j) ∧ t = decide (i < j)) ∨ ∃ i j, a = .d (.str i) ∧ b = .d (.str j) ∧ t = decide (i.cps.toList < j.cps.toList) := by
    intro a b t h
    unfold ltR at h
    split at h
    · cases h; exact .inl ⟨_, _, rfl, rfl, rfl⟩
    · cases h; exact .inr ⟨_, _, rfl, rfl, rfl⟩
    · cases h
  have hle : ∀ {a b : RD} {t : Bool}, leR a b = some t → (∃ i j, a = .d (.int i) ∧ b = .d (.int j) ∧ t = decide (i ≤ j)) ∨ ∃ i j, a = .d (.str i) ∧ b = .d (.str j) ∧ t = !decide (j.cps.toList < i.cps.toList) := by
    intro a b t h
    unfold leR at h
    split at h
    · cases h; exact .inl ⟨_, _, rfl, rfl, rfl⟩
    · cases h; exact .inr ⟨_, _, rfl, rfl, rfl⟩
    · cases h
  have his : ∀ {t : Bool}, isR a b = some t → (y = .non ∧ t = decide (x = .non)) ∨ ∃ i j : Bool, x = .bl i ∧ y = .bl j ∧ t = decide (i = j) := fun h => isR_ok ra rb h
  cases o with
  | eq =>
    rcases eqR_ok rs ra rb (show eqR st a b = some t from h) with ⟨d, e, h1, h2, h3, h4, rfl⟩ | ⟨p1, q1, vs, rfl, rfl, h1, h2, rfl⟩
    · exact op_eqD (by omega) pins s σ H x y v u Q I rx ry ⟨d, e, h1, h2, h3, h4, q⟩
    · cases rx
      cases ry
      exact eq_none (neg := false) hu I h1 h2 q
  | ne =>
    obtain ⟨t', ht, rfl⟩ := Option.map_eq_some_iff.mp (show (eqR st a b).map (!·) = some t from h)
    rcases eqR_ok rs ra rb ht with ⟨d, e, h1, h2, h3, h4, rfl⟩ | ⟨p1, q1, vs, rfl, rfl, h1, h2, rfl⟩
    · exact op_neD (by omega) pins s σ H x y v u Q I rx ry ⟨d, e, h1, h2, h3, h4, q⟩
    · cases rx
      cases ry
      exact eq_none (neg := true) hu I h1 h2 q
  | deq =>
    obtain ⟨p, q1, va, vb, rfl, rfl, y1, y2, d1, d2, hl, hh⟩ := deq_ok hu I rs ra rb (show deqR st a b = some t from h)
    cases rx
    cases ry
    refine PySem.W.keq_eq (knd := mixKind X.prog X.w) (r := t) y1 y2 d1 d2 (by omega) (fun _ => hh) ⟨.bl t, H, I, ?_, q⟩
    rw [hl]
    show Value.bool _ = Value.bool _
    simp
  | dne =>
    obtain ⟨t', ht, rfl⟩ := Option.map_eq_some_iff.mp (show (deqR st a b).map (!·) = some t from h)
    obtain ⟨p, q1, va, vb, rfl, rfl, y1, y2, d1, d2, hl, hh⟩ := deq_ok hu I rs ra rb ht
    cases rx
    cases ry
    refine PySem.W.keq_ne (knd := mixKind X.prog X.w) (r := t') y1 y2 d1 d2 (by omega) (fun _ => hh) ⟨.bl (!t'), H, I, ?_, q⟩
    rw [hl]
    show Value.bool _ = Value.bool _
    simp
  | lt =>
    rcases hlt (show ltR a b = some t from h) with ⟨i, j, rfl, rfl, rfl⟩ | ⟨i, j, rfl, rfl, rfl⟩
    · exact op_lt pins s σ H x y v u Q I rx ry ⟨i, j, rr_int ra, rr_int rb, q⟩
    · exact op_lt_str pins s σ H x y v u Q I rx ry ⟨i, j, rr_str ra, rr_str rb, q⟩
  | gt =>
    rcases hlt (show ltR b a = some t from h) with ⟨i, j, rfl, rfl, rfl⟩ | ⟨i, j, rfl, rfl, rfl⟩
    · exact op_gt pins s σ H x y v u Q I rx ry ⟨j, i, rr_int ra, rr_int rb, q⟩
    · exact op_gt_str pins s σ H x y v u Q I rx ry ⟨j, i, rr_str ra, rr_str rb, q⟩
  | le =>
    rcases hle (show leR a b = some t from h) with ⟨i, j, rfl, rfl, rfl⟩ | ⟨i, j, rfl, rfl, rfl⟩
    · exact op_le pins s σ H x y v u Q I rx ry ⟨i, j, rr_int ra, rr_int rb, q⟩
    · exact op_le_str pins s σ H x y v u Q I rx ry ⟨i, j, rr_str ra, rr_str rb, q⟩
  | ge =>
    rcases hle (show leR b a = some t from h) with ⟨i, j, rfl, rfl, rfl⟩ | ⟨i, j, rfl, rfl, rfl⟩
    · exact op_ge pins s σ H x y v u Q I rx ry ⟨j, i, rr_int ra, rr_int rb, q⟩
    · exact op_ge_str pins s σ H x y v u Q I rx ry ⟨j, i, rr_str ra, rr_str rb, q⟩
  | is =>
    rcases his (show isR a b = some t from h) with ⟨h1, rfl⟩ | ⟨i, j, h1, h2, rfl⟩
    · exact op_isN pins s σ H x y v u Q I rx ry ⟨h1, q⟩
    · exact op_is_bl pins s σ H x y v u Q I rx ry ⟨i, j, h1, h2, q⟩
  | isn =>
    obtain ⟨t', ht, rfl⟩ := Option.map_eq_some_iff.mp (show (isR a b).map (!·) = some t from h)
    rcases his ht with ⟨h1, rfl⟩ | ⟨i, j, h1, h2, rfl⟩
    · exact op_notN pins s σ H x y v u Q I rx ry ⟨h1, q⟩
    · exact op_isnot_bl pins s σ H x y v u Q I rx ry ⟨i, j, h1, h2, q⟩
  | inn =>
    have h : hasR st a b = some t := h
    unfold hasR at h
    split at h
    · rename_i kvs ek
      obtain ⟨k, e1, rfl⟩ := Option.map_eq_some_iff.mp h
      obtain ⟨p, vs, rfl, hp, g1, g2⟩ := dctAt_ok rs rb ek
      cases ry
      have ex := keyR_ok ra e1
      subst ex
      rw [← (dlk_ok k g1 g2).2] at q
      exact d_in (by omega) I (.inl ⟨_, _, hp, rfl, rfl⟩) rx fun s' I' => ⟨.bl _, H, I', rfl, q⟩
    rcases inR_ok rs ra rb h with ⟨i, j, h1, h2, rfl⟩ | ⟨d, qs, p, vs, h1, rfl, h3, h4, h5, h6, rfl⟩
    · exact op_in_str pins s σ H x y v u Q I rx ry ⟨i, j, h1, h2, q⟩
    · cases ry
      rcases h3 with h3 | h3
      · exact op_inD hu pins s σ H x (.ref p) v _ Q I rx rfl ⟨d, qs, h1, .lst h3 h4, h5, h6, q⟩
      · exact in_tup (neg := false) hu I rx h1 h3 h4 h5 h6 q
  | nin =>
    obtain ⟨t', ht, rfl⟩ := Option.map_eq_some_iff.mp (show (hasR st a b).map (!·) = some t from h)
    unfold hasR at ht
    split at ht
    · rename_i kvs ek
      obtain ⟨k, e1, rfl⟩ := Option.map_eq_some_iff.mp ht
      obtain ⟨p, vs, rfl, hp, g1, g2⟩ := dctAt_ok rs rb ek
      cases ry
      have ex := keyR_ok ra e1
      subst ex
      rw [← (dlk_ok k g1 g2).2] at q
      exact d_notIn (by omega) I (.inl ⟨_, _, hp, rfl, rfl⟩) rx fun s' I' => ⟨.bl _, H, I', rfl, q⟩
    rcases inR_ok rs ra rb ht with ⟨i, j, h1, h2, rfl⟩ | ⟨d, qs, p, vs, h1, rfl, h3, h4, h5, h6, rfl⟩
    · exact op_notin_str pins s σ H x y v u Q I rx ry ⟨i, j, h1, h2, q⟩
    · cases ry
      rcases h3 with h3 | h3
      · exact op_notInD hu pins s σ H x (.ref p) v _ Q I rx rfl ⟨d, qs, h1, .lst h3 h4, h5, h6, q⟩
      · exact in_tup (neg := true) hu I rx h1 h3 h4 h5 h6 q
end
end Nv

set_option Elab.async false
set_option linter.all false
set_option maxRecDepth 100000
set_option autoImplicit false
set_option maxHeartbeats 4000000
/-! NvKey: dicts whose keys are tuples, over the heap. -/
namespace Nv
open PySem PySem.Spec PyProof.Rows L2
section
variable {X : Cx} {pins : List (Addr × Obj)} {σ : L2.St} {s : Shared} {ρ : List Addr} {H : Hp}
mutual
theorem key_is0 (I : Inv X pins σ H s) : ∀ (d : D) (v : V) (u : Value) (k : NestedKey), RV X.kw ρ H d v → RelV v u → keyOf d = some k → NestedIs s.heap k u
  | .non, v, u, k, h, r, e => by unfold RV at h; unfold keyOf at e; cases e; subst h; cases r; exact .none
  | .bl b, v, u, k, h, r, e => by unfold RV at h; unfold keyOf at e; cases e; subst h; cases r; exact .bool rfl
  | .int i, v, u, k, h, r, e => by unfold RV at h; unfold keyOf at e; cases e; subst h; obtain ⟨t, rfl⟩ := r; exact .int i t
  | .str x, v, u, k, h, r, e => by unfold RV at h; unfold keyOf at e; cases e; subst h; obtain ⟨t, rfl⟩ := r; exact .text x t
  | .tup ds, v, u, k, h, r, e => by
    unfold RV at h
    unfold keyOf at e
    obtain ⟨ks, e1, rfl⟩ := Option.map_eq_some_iff.mp e
    obtain ⟨a, vs, rfl, h1, h2⟩ := h
    cases r
    obtain ⟨its, rv, ⟨o, ho, hc, n, hd⟩, _⟩ := I.tuple h1
    exact .tup ho hc hd (by simpa using keys_is0 I ds vs its ks h2 rv e1)
  | .lf _, v, u, k, h, r, e => by unfold keyOf at e; cases e
  | .ld _ _, v, u, k, h, r, e => by unfold keyOf at e; cases e
  | .obj _, v, u, k, h, r, e => by unfold keyOf at e; cases e
theorem keys_is0 (I : Inv X pins σ H s) : ∀ (ds : List D) (vs : List V) (us : List Value) (ks : List NestedKey), RVs X.kw ρ H ds vs → Vals vs us → keysOf ds = some ks → NestedAll s.heap ks us
  | [], vs, us, ks, h, r, e => by unfold RVs at h; unfold keysOf at e; cases e; subst h; cases r; exact .nil
  | d :: ds, vs, us, ks, h, r, e => by
    unfold RVs at h
    unfold keysOf at e
    obtain ⟨v, vr, rfl, h1, h2⟩ := h
    obtain ⟨k, e1, e2⟩ := Option.bind_eq_some_iff.mp e
    obtain ⟨kr, e3, rfl⟩ := Option.map_eq_some_iff.mp e2
    cases r with
    | cons r1 r2 => exact .cons (key_is0 I d v _ k h1 r1 e1) (keys_is0 I ds vr _ kr h2 r2 e3)
end
theorem keyN_some {d : D} {k : NestedKey} (h : keyN d = some k) : keyOf d = some k ∧ (∃ ks, k = .tup ks) ∧ k.depth ≤ 8 := by
  unfold keyN at h
  obtain ⟨k', e1, e2⟩ := Option.bind_eq_some_iff.mp h
  split at e2
  · rename_i q
    cases e2
    refine ⟨e1, ?_⟩
    cases k with
    | tup ks => exact ⟨⟨ks, rfl⟩, of_decide_eq_true q⟩
    | _ => cases q
  · cases e2
/-- a key that is a tuple -/
theorem keyN_is (I : Inv X pins σ H s) {d : D} {v : V} {u : Value} {k : NestedKey} (h : RV X.kw ρ H d v) (r : RelV v u) (e : keyN d = some k) : ∃ b, u = .ref b ∧ (nestedKind X.prog X.w).is s.heap k b := by
  obtain ⟨e1, ⟨ks, rfl⟩, e2⟩ := keyN_some e
  have n := key_is0 I d v u _ h r e1
  cases n with
  | tup h1 h2 h3 h4 => exact ⟨_, rfl, .tup h1 h2 h3 h4, e2⟩
/-- a dict of tuples, over the heap -/
theorem DN.heap (I : Inv X pins σ H s) {a : Addr} {kvs : List (D × D)} {xs : List (NestedKey × Addr × Value)} {vs : List V} (h : DN X.kw ρ H a kvs xs vs) : s.heap.DictOfH (nestedKind X.prog X.w) a xs := by
  obtain ⟨⟨o, es, ep, h1, h2, h3, h4⟩, _⟩ := (show ObjOk X.prog X.w H s.heap a (NDO X.w a xs) from I.hok a _ h.at_)
  refine ⟨o, es, ep, h1, h2, h3, h4, ?_, h.nd⟩
  have key : ∀ {kvs : List (D × D)} {xs : List (NestedKey × Addr × Value)}, kvs.map (fun p => keyN p.1) = xs.map (fun x => some x.1) → RVs X.kw ρ H (kvs.map (·.1)) (xs.map fun x => V.ref x.2.1) → ∀ x ∈ xs, (nestedKind X.prog X.w).is s.heap x.1 x.2.1 := by
    intro kvs
    induction kvs with
    | nil => intro xs q _ x hx; cases xs with | nil => cases hx | cons _ _ => cases q
    | cons p r ih =>
      intro xs q rk x hx
      cases xs with
      | nil => cases hx
      | cons y ys =>
        rw [List.map_cons, List.map_cons] at q rk
        injection q with q1 q2
        unfold RVs at rk
        obtain ⟨v, w, e, r1, r2⟩ := rk
        injection e with e1 e2
        subst e1
        rw [← e2] at r2
        rcases List.mem_cons.mp hx with z | hx
        · rw [z]
          obtain ⟨b, eb, hb⟩ := keyN_is I r1 (u := .ref y.2.1) rfl q1
          cases eb
          exact hb
        · exact ih q2 r2 x hx
  exact key h.ks h.rk
theorem nlk_ok {K : Kw} {k : NestedKey} : ∀ {kvs : List (D × D)} {xs : List (NestedKey × Addr × Value)} {vs : List V}, kvs.map (fun p => keyN p.1) = xs.map (fun x => some x.1) → Vals vs (xs.map (·.2.2)) → RVs K ρ H (kvs.map (·.2)) vs →
    (∀ d, nlk kvs k = some d → ∃ q v, atKey xs k = some q ∧ RelV v q.2 ∧ RV K ρ H d v) ∧ (atKey xs k).isSome = (nlk kvs k).isSome
  | [], xs, vs, h, _, _ => by
    cases xs with
    | nil => exact ⟨fun d e => (by cases e), rfl⟩
    | cons _ _ => cases h
  | p :: r, xs, vs, h, hv, hr => by
    cases xs with
    | nil => cases h
    | cons x xs =>
      rw [List.map_cons, List.map_cons] at h
      injection h with h1 h2
      rw [List.map_cons] at hv hr
      cases hv with
      | cons v1 v2 =>
        unfold RVs at hr
        obtain ⟨v, w, e, r1, r2⟩ := hr
        cases e
        obtain ⟨i1, i2⟩ := nlk_ok (k := k) h2 v2 r2
        by_cases hk : x.1 = k
        · have a1 : nlk (p :: r) k = some p.2 := by unfold nlk; rw [List.find?_cons]; simp [h1, hk]
          have a2 : atKey (x :: xs) k = some x.2 := by unfold atKey; rw [List.find?_cons]; simp [hk]
          rw [a1, a2]
          exact ⟨fun d e => (by cases e; exact ⟨x.2, _, rfl, v1, r1⟩), rfl⟩
        · have a1 : nlk (p :: r) k = nlk r k := by unfold nlk; rw [List.find?_cons]; simp [h1, hk]
          have a2 : atKey (x :: xs) k = atKey xs k := by unfold atKey; rw [List.find?_cons]; simp [hk]
          rw [a1, a2]
          exact ⟨i1, i2⟩
section
variable {A : Around} {E : Value → Shared → Prop} {a b : Addr} {k : NestedKey} {kvs : List (D × D)} {xs : List (NestedKey × Addr × Value)} {vs : List V}
theorem room_n (hu : A.units + 9 < cLine) : (nestedKind X.prog X.w).room A.in1 := by
  show A.in1.units + 8 < cLine
  show A.units + 1 + 8 < cLine
  omega
/-- d[k], there -/
theorem dn_getItem {q : Addr × Value} {Q : Value → Shared → Prop} (hu : A.units + 9 < cLine) (I : Inv X pins σ H s) (h : DN X.kw ρ H a kvs xs vs) (hk : (nestedKind X.prog X.w).is s.heap k b) (hq : atKey xs k = some q) (c : ∀ s', Inv X pins σ H s' → Q q.2 s') :
    wpAny (model X.prog X.w) A (getItem (.ref a) (.ref b)) Q E s := wpAny_getItem_heap (room_n hu) hk (h.heap I) hq (c _ (I.tok _))
/-- k in d -/
theorem dn_in {Q : Value → Shared → Prop} (hu : A.units + 9 < cLine) (I : Inv X pins σ H s) (h : DN X.kw ρ H a kvs xs vs) (hk : (nestedKind X.prog X.w).is s.heap k b) (c : ∀ s', Inv X pins σ H s' → Q (.bool (atKey xs k).isSome) s') :
    wpAny (model X.prog X.w) A (compareOp .In (.ref b) (.ref a)) Q E s := wpAny_in_heap (room_n hu) hk h.sys (h.heap I) (c _ (I.tok _))
end
/-- the keys' addresses -/
theorem keyN_tup {d : D} {k : NestedKey} (h : keyN d = some k) : ∃ ds, d = .tup ds := by
  obtain ⟨e, ⟨ks, rfl⟩, _⟩ := keyN_some h
  cases d with
  | tup ds => exact ⟨ds, rfl⟩
  | non => unfold keyOf at e; cases e
  | bl b => unfold keyOf at e; cases e
  | int i => unfold keyOf at e; cases e
  | str x => unfold keyOf at e; cases e
  | lf _ => unfold keyOf at e; cases e
  | ld _ _ => unfold keyOf at e; cases e
  | obj _ => unfold keyOf at e; cases e
theorem rv_keyN {d : D} {v : V} {k : NestedKey} {K : Kw} (h : RV K ρ H d v) (e : keyN d = some k) : ∃ b, v = .ref b := by
  obtain ⟨ds, rfl⟩ := keyN_tup e
  unfold RV at h
  obtain ⟨a, vs, e1, _⟩ := h
  exact ⟨a, e1⟩
/-- an empty dict, as one of tuples -/
theorem dk_none (I : Inv X pins σ H s) {a : Addr} (h : H a = some (.dK [])) : s.heap.DictOfH (nestedKind X.prog X.w) a [] ∧ (a == sysModules) = false := by
  obtain ⟨_, hd, vs, rel, o, es, ep, h1, h2, h3, _, h5, _⟩ := dk_of I.hok h
  cases rel
  have he : es.toList = [] := by
    cases q : es.toList with
    | nil => rfl
    | cons x r => rw [q] at h5; cases h5
  exact ⟨⟨o, es, ep, h1, h2, h3, by rw [he]; rfl, fun x hx => (by cases hx), List.nodup_nil⟩, hd⟩
/-- a dict of tuples, empty or not: what stands in the heap -/
def DNe (K : Kw) (ρ : List Addr) (H : Hp) (a : Addr) (kvs : List (D × D)) (xs : List (NestedKey × Addr × Value)) (vs : List V) : Prop :=
  (kvs = [] ∧ xs = [] ∧ vs = [] ∧ H a = some (.dK [])) ∨ DN K ρ H a kvs xs vs
theorem DNe.heap {a : Addr} {kvs : List (D × D)} {xs : List (NestedKey × Addr × Value)} {vs : List V} (I : Inv X pins σ H s) (h : DNe X.kw ρ H a kvs xs vs) : s.heap.DictOfH (nestedKind X.prog X.w) a xs ∧ (a == sysModules) = false := by
  rcases h with ⟨_, rfl, _, h⟩ | h
  · exact dk_none I h
  · exact ⟨h.heap I, h.sys⟩
theorem DNe.facts {K : Kw} {a : Addr} {kvs : List (D × D)} {xs : List (NestedKey × Addr × Value)} {vs : List V} (h : DNe K ρ H a kvs xs vs) : kvs.map (fun p => keyN p.1) = xs.map (fun x => some x.1) ∧ RVs K ρ H (kvs.map (·.1)) (xs.map fun x => V.ref x.2.1) ∧ Vals vs (xs.map (·.2.2)) ∧ RVs K ρ H (kvs.map (·.2)) vs := by
  rcases h with ⟨rfl, rfl, rfl, h⟩ | h
  · exact ⟨rfl, .nil_, .nil, .nil_⟩
  · exact ⟨h.ks, h.rk, h.vl, h.rv⟩
theorem dN_dk {K : Kw} {a : Addr} {kvs : List (D × D)} (q : kvs.isEmpty = true ∨ dN kvs = true) (h : ROb K ρ H a (.dct kvs)) : ∃ xs vs, DNe K ρ H a kvs xs vs := by
  rcases h with ⟨vs, h1, h2, h3⟩ | ⟨xs, vs, h⟩ | ⟨xs, vs, h⟩
  rotate_right
  · exfalso
    cases kvs with
    | nil => exact h.ne rfl
    | cons p r =>
      rcases q with q | q
      · cases q
      · have hk := h.ks
        cases xs with
        | nil => cases hk
        | cons x xs =>
          rw [List.map_cons, List.map_cons] at hk
          injection hk with h1 _
          unfold dN at q
          rw [Bool.and_eq_true, List.all_cons, Bool.and_eq_true, h1] at q
          exact absurd q.2.1 (by simp [keyN, keyOf, tupK])
  · cases kvs with
    | nil =>
      cases vs with
      | nil => exact ⟨[], [], .inl ⟨rfl, rfl, rfl, h1⟩⟩
      | cons _ _ => cases h2
    | cons p r =>
      exfalso
      rcases q with q | q
      · cases q
      · unfold dN at q
        rw [Bool.and_eq_true, List.all_cons, Bool.and_eq_true] at q
        cases vs with
        | nil => cases h2
        | cons y ys =>
          rw [List.map_cons, List.map_cons] at h2
          injection h2 with e1 _
          obtain ⟨k, hk⟩ := Option.isSome_iff_exists.mp q.2.1
          obtain ⟨ds, e2⟩ := keyN_tup hk
          rw [e2] at e1
          obtain ⟨ky, yv⟩ := y
          cases ky with
          | inl i => exact D.noConfusion (show D.int i = D.tup ds from e1)
          | inr x => exact D.noConfusion (show D.str x = D.tup ds from e1)
  · exact ⟨xs, vs, .inr h⟩
theorem RS.nAt {K : Kw} {st : Sto} {a : RD} {x : V} {H0 : Hp} {kvs : List (D × D)} (rs : RS K ρ H st) (ra : RR K H0 ρ H a x) (h : nAt st a = some kvs) : ∃ (i : Nat) (p : Addr) (xs : List (NestedKey × Addr × Value)) (vs : List V), a = .d (.obj i) ∧ st[i]? = some (.dct kvs) ∧ x = .ref p ∧ ρ[i]? = some p ∧ DNe K ρ H p kvs xs vs := by
  unfold Nv.nAt at h
  split at h
  · rename_i i
    split at h
    · rename_i kvs' e
      split at h
      · rename_i q
        cases h
        have ra : RV K ρ H (.obj i) x := ra
        unfold RV at ra
        obtain ⟨p, e1, e2⟩ := ra
        obtain ⟨xs, vs, hd⟩ := dN_dk q (rs.ob i _ p e e2)
        exact ⟨i, p, xs, vs, rfl, e, e1, e2, hd⟩
      · cases h
    · cases h
  · cases h
/-- what a dict of tuples holds, found in the heap -/
def DGN (X : Cx) (H : Hp) (a : Addr) (y : V) (r : Option V) : Prop := ∃ (b : Addr) (k : NestedKey) (xs : List (NestedKey × Addr × Value)), y = .ref b ∧ (∀ pins σ s, Inv X pins σ H s → s.heap.DictOfH (nestedKind X.prog X.w) a xs ∧ (a == sysModules) = false ∧ (nestedKind X.prog X.w).is s.heap k b) ∧ RelO r ((atKey xs k).map (·.2))
theorem dgn_of {a : Addr} {kvs : List (D × D)} {xs : List (NestedKey × Addr × Value)} {vs : List V} {kd : D} {y : V} {k : NestedKey} (h : DNe X.kw ρ H a kvs xs vs) (rk : RV X.kw ρ H kd y) (ek : keyN kd = some k) : ∃ r, DGN X H a y r ∧ (∀ d, nlk kvs k = some d → ∃ v, r = some v ∧ RV X.kw ρ H d v) ∧ (nlk kvs k = none → r = none) := by
  obtain ⟨b, rfl⟩ := rv_keyN rk ek
  obtain ⟨f1, f2, f3, f4⟩ := h.facts
  obtain ⟨n1, n2⟩ := nlk_ok (k := k) f1 f3 f4
  have key : ∀ pins σ s, Inv X pins σ H s → s.heap.DictOfH (nestedKind X.prog X.w) a xs ∧ (a == sysModules) = false ∧ (nestedKind X.prog X.w).is s.heap k b := fun pins σ s I => by
    obtain ⟨g1, g2⟩ := h.heap I
    obtain ⟨b', eb, hb⟩ := keyN_is I rk (u := .ref b) rfl ek
    cases eb
    exact ⟨g1, g2, hb⟩
  cases e : nlk kvs k with
  | none =>
    rw [e] at n2
    have : atKey xs k = none := by
      cases q : atKey xs k with
      | none => rfl
      | some _ => rw [q] at n2; cases n2
    exact ⟨none, ⟨b, k, xs, rfl, key, by rw [this]; exact True.intro⟩, fun d q => (by cases q), fun _ => rfl⟩
  | some d =>
    obtain ⟨q, v, e1, e2, e3⟩ := n1 d e
    exact ⟨some v, ⟨b, k, xs, rfl, key, by rw [e1]; exact e2⟩, fun d' q => (by cases q; exact ⟨v, rfl, e3⟩), fun q => by cases q⟩
section
variable {A : Around} {E : Value → Shared → Prop} {a : Addr} {y v : V} {u r : Value} {o : Option V}
/-- d[t], there -/
theorem dgn_getItem {Q : Value → Shared → Prop} (hu : A.units + 9 < cLine) (I : Inv X pins σ H s) (g : DGN X H a y (some v)) (ry : RelV y u) (h : ∀ w' s', Inv X pins σ H s' → RelV v w' → Q w' s') : wpAny (model X.prog X.w) A (getItem (.ref a) u) Q E s := by
  obtain ⟨b, k, xs, rfl, key, rel⟩ := g
  cases (show u = Value.ref b from ry)
  obtain ⟨g1, g2, g3⟩ := key _ _ _ I
  obtain ⟨w', hw, rw'⟩ := rel.some_of
  obtain ⟨p, hp, hp2⟩ := Option.map_eq_some_iff.mp hw
  refine wpAny_getItem_heap (room_n hu) g3 g1 hp ?_
  rw [hp2]
  exact h w' _ (I.tok _) rw'
theorem dgn_typeIs (I : Inv X pins σ H s) (g : DGN X H a y o) : s.TypeIs (.ref a) "dict" := by
  obtain ⟨b, k, xs, rfl, key, rel⟩ := g
  exact (key _ _ _ I).1.typeIs
/-- d.get(t) -/
theorem dgn_get1 {Q : Value → Shared → Prop} (hu : A.units + 9 < cLine) (I : Inv X pins σ H s) (g : DGN X H a y o) (ry : RelV y u) (h : ∀ w' s', Inv X pins σ H s' → RelV (o.getD .non) w' → Q w' s') :
    wpAny (model X.prog X.w) A (call (.builtin "dict.get") [.ref a, u]) Q E s := by
  obtain ⟨b, k, xs, rfl, key, rel⟩ := g
  cases (show u = Value.ref b from ry)
  obtain ⟨g1, g2, g3⟩ := key _ _ _ I
  refine call_meetsIn PySem.F.slot_dict_get g1.typeIs PySem.F.entry_dict_get (PySem.F.args_dict_get_2 _ _) (meetsH_dict_get (nestedKind X.prog X.w) a b g2) ⟨room_n hu, k, xs, g3, g1, h _ _ (I.tok _) ?_⟩
  exact rel.getD rfl
end
/-! ### dicts of truths -/
theorem DB.heap (I : Inv X pins σ H s) {a : Addr} {kvs : List (D × D)} {xs : List (Bool × Value)} {vs : List V} (h : DB X.kw ρ H a kvs xs vs) : s.heap.DictOf (boolKind X.prog X.w) a xs :=
  (show ObjOk X.prog X.w H s.heap a (DBO X.w a xs) from I.hok a _ h.at_).1 X.prog
/-- .. empty or not -/
def DBe (K : Kw) (ρ : List Addr) (H : Hp) (a : Addr) (kvs : List (D × D)) (xs : List (Bool × Value)) (vs : List V) : Prop :=
  (kvs = [] ∧ xs = [] ∧ vs = [] ∧ H a = some (.dK [])) ∨ DB K ρ H a kvs xs vs
theorem DBe.heap {a : Addr} {kvs : List (D × D)} {xs : List (Bool × Value)} {vs : List V} (I : Inv X pins σ H s) (h : DBe X.kw ρ H a kvs xs vs) : s.heap.DictOf (boolKind X.prog X.w) a xs ∧ (a == sysModules) = false := by
  rcases h with ⟨_, rfl, _, h⟩ | h
  · obtain ⟨_, hd, vs, rel, o, es, ep, h1, h2, h3, h4, h5, _⟩ := dk_of I.hok h
    cases rel
    have he : es.toList = [] := by
      cases q : es.toList with
      | nil => rfl
      | cons x r => rw [q] at h5; cases h5
    have he2 : es = #[] := by rw [← Array.toArray_toList (xs := es), he]
    subst he2
    exact ⟨⟨o, #[], ep, h1, h2, h3, fun e he => (by simp at he), .nil, List.nodup_nil⟩, hd⟩
  · exact ⟨h.heap I, h.sys⟩
theorem DBe.facts {K : Kw} {a : Addr} {kvs : List (D × D)} {xs : List (Bool × Value)} {vs : List V} (h : DBe K ρ H a kvs xs vs) : kvs.map (·.1) = xs.map (fun x => D.bl x.1) ∧ Vals vs (xs.map (·.2)) ∧ RVs K ρ H (kvs.map (·.2)) vs := by
  rcases h with ⟨rfl, rfl, rfl, h⟩ | h
  · exact ⟨rfl, .nil, .nil_⟩
  · exact ⟨h.ks, h.vl, h.rv⟩
theorem dB_dk {K : Kw} {a : Addr} {kvs : List (D × D)} (q : kvs.isEmpty = true ∨ dB kvs = true) (h : ROb K ρ H a (.dct kvs)) : ∃ xs vs, DBe K ρ H a kvs xs vs := by
  rcases h with ⟨vs, h1, h2, h3⟩ | ⟨xs, vs, h⟩ | ⟨xs, vs, h⟩
  · cases kvs with
    | nil =>
      cases vs with
      | nil => exact ⟨[], [], .inl ⟨rfl, rfl, rfl, h1⟩⟩
      | cons _ _ => cases h2
    | cons p r =>
      exfalso
      rcases q with q | q
      · cases q
      · unfold dB at q
        rw [Bool.and_eq_true, List.all_cons, Bool.and_eq_true] at q
        cases vs with
        | nil => cases h2
        | cons y ys =>
          rw [List.map_cons, List.map_cons] at h2
          injection h2 with e1 _
          rw [← e1] at q
          obtain ⟨ky, yv⟩ := y
          cases ky with
          | inl i => exact absurd q.2.1 (by simp [keyD, keyB])
          | inr x => exact absurd q.2.1 (by simp [keyD, keyB])
  · exfalso
    cases kvs with
    | nil => exact h.ne rfl
    | cons p r =>
      rcases q with q | q
      · cases q
      · have hk := h.ks
        cases xs with
        | nil => cases hk
        | cons x xs =>
          rw [List.map_cons, List.map_cons] at hk
          injection hk with h1 _
          obtain ⟨ds, e⟩ := keyN_tup h1
          unfold dB at q
          rw [Bool.and_eq_true, List.all_cons, Bool.and_eq_true, e] at q
          exact absurd q.2.1 (by simp [keyB])
  · exact ⟨xs, vs, .inr h⟩
theorem RS.bAt {K : Kw} {st : Sto} {a : RD} {x : V} {H0 : Hp} {kvs : List (D × D)} (rs : RS K ρ H st) (ra : RR K H0 ρ H a x) (h : bAt st a = some kvs) : ∃ (i : Nat) (p : Addr) (xs : List (Bool × Value)) (vs : List V), a = .d (.obj i) ∧ st[i]? = some (.dct kvs) ∧ x = .ref p ∧ ρ[i]? = some p ∧ DBe K ρ H p kvs xs vs := by
  unfold Nv.bAt at h
  split at h
  · rename_i i
    split at h
    · rename_i kvs' e
      split at h
      · rename_i q
        cases h
        have ra : RV K ρ H (.obj i) x := ra
        unfold RV at ra
        obtain ⟨p, e1, e2⟩ := ra
        obtain ⟨xs, vs, hd⟩ := dB_dk q (rs.ob i _ p e e2)
        exact ⟨i, p, xs, vs, rfl, e, e1, e2, hd⟩
      · cases h
    · cases h
  · cases h
theorem blk_ok {K : Kw} {b : Bool} : ∀ {kvs : List (D × D)} {xs : List (Bool × Value)} {vs : List V}, kvs.map (·.1) = xs.map (fun x => D.bl x.1) → Vals vs (xs.map (·.2)) → RVs K ρ H (kvs.map (·.2)) vs →
    (∀ d, blk kvs b = some d → ∃ u v, valueAt xs b = some u ∧ RelV v u ∧ RV K ρ H d v) ∧ (blk kvs b = none → valueAt xs b = none)
  | [], xs, vs, h, _, _ => by
    cases xs with
    | nil => exact ⟨fun d e => (by cases e), fun _ => rfl⟩
    | cons _ _ => cases h
  | p :: r, xs, vs, h, hv, hr => by
    cases xs with
    | nil => cases h
    | cons x xs =>
      rw [List.map_cons, List.map_cons] at h
      injection h with h1 h2
      rw [List.map_cons] at hv hr
      cases hv with
      | cons v1 v2 =>
        unfold RVs at hr
        obtain ⟨v, w, e, r1, r2⟩ := hr
        cases e
        obtain ⟨i1, i2⟩ := blk_ok (b := b) h2 v2 r2
        by_cases hk : x.1 = b
        · have a1 : blk (p :: r) b = some p.2 := by unfold blk; rw [List.find?_cons]; simp [h1, hk, keyB]
          have a2 : valueAt (x :: xs) b = some x.2 := by unfold valueAt; rw [List.find?_cons]; simp [hk]
          rw [a1, a2]
          exact ⟨fun d e => (by cases e; exact ⟨x.2, _, rfl, v1, r1⟩), fun e => by cases e⟩
        · have a1 : blk (p :: r) b = blk r b := by unfold blk; rw [List.find?_cons]; simp [h1, hk, keyB]
          have a2 : valueAt (x :: xs) b = valueAt xs b := by unfold valueAt; rw [List.find?_cons]; simp [hk]
          rw [a1, a2]
          exact ⟨i1, i2⟩
/-- what a dict of truths holds -/
def DGB (X : Cx) (H : Hp) (a : Addr) (y : V) (r : Option V) : Prop := ∃ (b : Bool) (xs : List (Bool × Value)), y = .bl b ∧ (∀ pins σ s, Inv X pins σ H s → s.heap.DictOf (boolKind X.prog X.w) a xs ∧ (a == sysModules) = false) ∧ RelO r (valueAt xs b)
theorem dgb_of {a : Addr} {kvs : List (D × D)} {xs : List (Bool × Value)} {vs : List V} {y : V} {b : Bool} (h : DBe X.kw ρ H a kvs xs vs) (ey : y = .bl b) : ∃ r, DGB X H a y r ∧ (∀ d, blk kvs b = some d → ∃ v, r = some v ∧ RV X.kw ρ H d v) ∧ (blk kvs b = none → r = none) := by
  obtain ⟨f1, f2, f3⟩ := h.facts
  obtain ⟨n1, n2⟩ := blk_ok (b := b) f1 f2 f3
  cases e : blk kvs b with
  | none => exact ⟨none, ⟨b, xs, ey, fun pins σ s I => h.heap I, by rw [n2 e]; exact True.intro⟩, fun d q => (by cases q), fun _ => rfl⟩
  | some d =>
    obtain ⟨u, v, e1, e2, e3⟩ := n1 d e
    exact ⟨some v, ⟨b, xs, ey, fun pins σ s I => h.heap I, by rw [e1]; exact e2⟩, fun d' q => (by cases q; exact ⟨v, rfl, e3⟩), fun q => by cases q⟩
theorem rel_bool {b : Bool} {u : Value} (r : RelV (.bl b) u) : boolIs b u = true := by
  have e : u = .bool b := r
  rw [e]
  show (b == b) = true
  simp
section
variable {A : Around} {E : Value → Shared → Prop} {a : Addr} {y v z : V} {u r : Value} {o : Option V}
theorem dgb_getItem {Q : Value → Shared → Prop} (I : Inv X pins σ H s) (g : DGB X H a y (some v)) (ry : RelV y u) (h : ∀ w' s', Inv X pins σ H s' → RelV v w' → Q w' s') : wpAny (model X.prog X.w) A (getItem (.ref a) u) Q E s := by
  obtain ⟨b, xs, rfl, key, rel⟩ := g
  obtain ⟨g1, g2⟩ := key _ _ _ I
  obtain ⟨w', hw, rw'⟩ := rel.some_of
  exact wpAny_getItem_of (rel_bool ry) g1.mapOf hw (h w' _ (I.tok _) rw')
theorem dgb_typeIs (I : Inv X pins σ H s) (g : DGB X H a y o) : s.TypeIs (.ref a) "dict" := by
  obtain ⟨b, xs, rfl, key, rel⟩ := g
  exact (key _ _ _ I).1.typeIs
/-- d.get(t, x) -/
theorem dgn_get2 {Q : Value → Shared → Prop} (hu : A.units + 9 < cLine) (I : Inv X pins σ H s) (g : DGN X H a y o) (ry : RelV y u) (rz : RelV z r) (h : ∀ w' s', Inv X pins σ H s' → RelV (o.getD z) w' → Q w' s') :
    wpAny (model X.prog X.w) A (call (.builtin "dict.get") [.ref a, u, r]) Q E s := by
  obtain ⟨b, k, xs, rfl, key, rel⟩ := g
  cases (show u = Value.ref b from ry)
  obtain ⟨g1, g2, g3⟩ := key _ _ _ I
  refine call_meetsIn PySem.F.slot_dict_get g1.typeIs PySem.F.entry_dict_get (PySem.F.args_dict_get_3 _ _ _) (meetsH_dict_get_default (nestedKind X.prog X.w) a b g2 r) ⟨room_n hu, k, xs, g3, g1, h _ _ (I.tok _) ?_⟩
  exact rel.getD rz
theorem dgb_get2 {Q : Value → Shared → Prop} (I : Inv X pins σ H s) (g : DGB X H a y o) (ry : RelV y u) (rz : RelV z r) (h : ∀ w' s', Inv X pins σ H s' → RelV (o.getD z) w' → Q w' s') :
    wpAny (model X.prog X.w) A (call (.builtin "dict.get") [.ref a, u, r]) Q E s := by
  obtain ⟨b, xs, rfl, key, rel⟩ := g
  obtain ⟨g1, g2⟩ := key _ _ _ I
  refine call_meetsIn PySem.F.slot_dict_get g1.typeIs PySem.F.entry_dict_get (PySem.F.args_dict_get_3 _ _ _) (meets_dict_get_default (boolKind X.prog X.w) a (rel_bool ry) g2 r) ⟨_, g1.mapOf, h _ _ (I.tok _) ?_⟩
  exact rel.getD rz
end
/-- a dict, whatever its keys -/
def IsDN (X : Cx) (H : Hp) (a : Addr) : Prop := ∀ pins σ s, Inv X pins σ H s → s.TypeIs (.ref a) "dict" ∧ ∀ b, Value.ref a = .ref b → ∃ ob, s.heap.get? b = some ob ∧ ob.dict = none
theorem isDN_k {a : Addr} {kvs : List (Key × V)} (h : Rd H a (.dK kvs)) : IsDN X H a := fun pins σ s I => by
  obtain ⟨h1, h2, _⟩ := isD_at I (.inl ⟨kvs, h⟩)
  exact ⟨h1, h2⟩
theorem isDN_n {a : Addr} {kvs : List (D × D)} {xs : List (NestedKey × Addr × Value)} {vs : List V} (h : DNe X.kw ρ H a kvs xs vs) : IsDN X H a := fun pins σ s I => by
  obtain ⟨g1, g2⟩ := h.heap I
  refine ⟨g1.typeIs, fun b q => ?_⟩
  cases q
  obtain ⟨o, es, ep, h1, h2, _⟩ := g1
  exact ⟨o, h1, h2.2.1⟩
theorem isDN_b {a : Addr} {kvs : List (D × D)} {xs : List (Bool × Value)} {vs : List V} (h : DBe X.kw ρ H a kvs xs vs) : IsDN X H a := fun pins σ s I => by
  obtain ⟨g1, g2⟩ := h.heap I
  exact ⟨g1.typeIs, g1.mapOf.noDict⟩
/-- d.get(k, x), whatever its keys -/
def tDGet2A (X : Cx) (td ty tx : TE) : TE := fun σ H Q => td σ H fun x H1 => ∃ a, x = .ref a ∧ IsDN X H1 a ∧ ty σ H1 fun y H2 => tx σ H2 fun z H3 => ∃ o, (DGet H3 a y o ∨ DGN X H3 a y o ∨ DGB X H3 a y o) ∧ Q (o.getD z) H3
theorem pe_dget2A {X : Cx} {o e f : Expr} {apos cpos : Pos} {td ty tx : TE} (hu : X.A.units + 9 < cLine) (ho : PE X o td) (he : PE X e ty) (hf : PE X f tx) (m : L2.M2 X o "get" apos e f cpos) : PE X (.Call (.Attribute o "get" apos) [e, f] [] cpos) (tDGet2A X td ty tx) := by
  refine ⟨fun pins s σ H Q I h => ?_⟩
  refine wpAny_Call_method m.base m.few m.line PySem.F.plainAttrs_dict PySem.F.slot_dict_get PySem.F.type_dict_get (thn (ho.run pins s σ H _ I h) fun u s1 ⟨x, H1, I1, rx, a, ex, d, q1⟩ => ?_)
  subst ex
  obtain rfl : u = Value.ref a := rx
  obtain ⟨t1, t2⟩ := d _ _ _ I1
  refine ⟨t1, t2, ?_⟩
  rw [m.trees]
  refine Calls.callWith_builtin rfl (Calls.evalArgs_plain (Calls.spliced_cons (thn (he.run pins s1 σ H1 _ I1 q1) fun iv s2 ⟨y, H2, I2, ry, q2⟩ =>
    Calls.spliced_cons (thn (hf.run pins s2 σ H2 _ I2 q2) fun fv s3 ⟨z, H3, I3, rz, ov, g, q3⟩ => Calls.spliced_nil ?_))))
  rcases g with g | g | g
  · exact d_get2 (by omega) I3 g ry rz fun w' s4 I4 rw' => ⟨_, H3, I4, rw', q3⟩
  · exact dgn_get2 hu I3 g ry rz fun w' s4 I4 rw' => ⟨_, H3, I4, rw', q3⟩
  · exact dgb_get2 I3 g ry rz fun w' s4 I4 rw' => ⟨_, H3, I4, rw', q3⟩
def tDGetA (X : Cx) (td ty : TE) : TE := fun σ H Q => td σ H fun x H1 => ∃ a, x = .ref a ∧ IsDN X H1 a ∧ ty σ H1 fun y H2 => ∃ o, (DGet H2 a y o ∨ DGN X H2 a y o) ∧ Q (o.getD .non) H2
theorem pe_dgetA {X : Cx} {o e : Expr} {apos cpos : Pos} {td ty : TE} (hu : X.A.units + 9 < cLine) (ho : PE X o td) (he : PE X e ty) (m : L2.M1 X o "get" apos e cpos) : PE X (.Call (.Attribute o "get" apos) [e] [] cpos) (tDGetA X td ty) := by
  refine ⟨fun pins s σ H Q I h => ?_⟩
  refine wpAny_Call_method m.base m.few m.line PySem.F.plainAttrs_dict PySem.F.slot_dict_get PySem.F.type_dict_get (thn (ho.run pins s σ H _ I h) fun u s1 ⟨x, H1, I1, rx, a, ex, d, q1⟩ => ?_)
  subst ex
  obtain rfl : u = Value.ref a := rx
  obtain ⟨t1, t2⟩ := d _ _ _ I1
  refine ⟨t1, t2, ?_⟩
  rw [m.trees]
  refine Calls.callWith_builtin rfl (Calls.evalArgs_plain (Calls.spliced_cons (thn (he.run pins s1 σ H1 _ I1 q1) fun iv s2 ⟨y, H2, I2, ry, ov, g, q2⟩ => Calls.spliced_nil ?_)))
  rcases g with g | g
  · exact d_get1 (by omega) I2 g ry fun w' s3 I3 rw' => ⟨_, H2, I3, rw', q2⟩
  · exact dgn_get1 hu I2 g ry fun w' s3 I3 rw' => ⟨_, H2, I3, rw', q2⟩
/-! ### d[t] = v -/
theorem chg_ext {p : Addr} {φ : Heap → Prop} (h : H p = some (.ext φ)) : Chg H p := ⟨fun xs z => (by rw [h] at z; cases z), fun o u z => (by rw [h] at z; cases z)⟩
theorem DNe.chg {K : Kw} {a : Addr} {kvs : List (D × D)} {xs : List (NestedKey × Addr × Value)} {vs : List V} (h : DNe K ρ H a kvs xs vs) : Chg H a ∧ L2.Mut (H a) := by
  rcases h with ⟨_, _, _, h⟩ | h
  · exact ⟨Chg.dK h, by rw [h]; exact True.intro⟩
  · exact ⟨chg_ext h.at_, by rw [h.at_]; exact True.intro⟩
theorem Ext.writeA {K : Kw} {p : Addr} {o : HO} (hc : Chg H p) (m : p ∈ ρ) : Ext K ρ H ρ (upd H p o) where
  pre := fun _ _ h => h
  tup := fun a xs h => sqt_chg hc h
  fz := fz_chg hc
  oth := fun a u h n => by rw [upd_ne (fun z => n (by rw [z]; exact m))]; exact h
  new := fun a h => .inl h
  bk := fun a h => by
    by_cases e : a = p
    · rw [e, upd_same] at h; cases h
    · rw [upd_ne e] at h; exact h
theorem RS.writeA {K : Kw} {st : Sto} {i : Nat} {p : Addr} {o : HO} {kvs : List (D × D)} (h : RS K ρ H st) (hi : ρ[i]? = some p) (hc : Chg H p) (hn : ROb K ρ (upd H p o) p (.dct kvs)) : RS K ρ (upd H p o) (st.set i (.dct kvs)) := by
  have m : p ∈ ρ := List.mem_of_getElem? hi
  have e := Ext.writeA (K := K) (o := o) hc m
  refine ⟨by rw [List.length_set]; exact h.len, h.nd, fun j ob a h1 h2 => ?_⟩
  by_cases hj : i = j
  · subst hj
    rw [hi] at h2
    cases h2
    have hlt : i < st.length := by rw [← h.len]; exact (List.getElem?_eq_some_iff.mp hi).1
    rw [List.getElem?_set_self hlt] at h1
    cases h1
    exact hn
  · rw [List.getElem?_set_ne hj] at h1
    refine (h.ob j ob a h1 h2).mono e fun u q => ?_
    rw [upd_ne ?_]
    · exact q
    · rintro rfl
      exact hj (nodup_ix_ h.nd hi h2)
theorem atKey_some {xs : List (NestedKey × Addr × Value)} {kvs : List (D × D)} {k : NestedKey} (f1 : kvs.map (fun p => keyN p.1) = xs.map (fun x => some x.1)) : (atKey xs k).isSome = (nlk kvs k).isSome := by
  induction kvs generalizing xs with
  | nil => cases xs with | nil => rfl | cons _ _ => cases f1
  | cons p r ih =>
    cases xs with
    | nil => cases f1
    | cons x ys =>
      rw [List.map_cons, List.map_cons] at f1
      injection f1 with h1 h2
      by_cases hk : x.1 = k
      · have a1 : nlk (p :: r) k = some p.2 := by unfold nlk; rw [List.find?_cons]; simp [h1, hk]
        have a2 : atKey (x :: ys) k = some x.2 := by unfold atKey; rw [List.find?_cons]; simp [hk]
        rw [a1, a2]; rfl
      · have a1 : nlk (p :: r) k = nlk r k := by unfold nlk; rw [List.find?_cons]; simp [h1, hk]
        have a2 : atKey (x :: ys) k = atKey ys k := by unfold atKey; rw [List.find?_cons]; simp [hk]
        rw [a1, a2]; exact ih h2
theorem put_old {K : Kw} {k : NestedKey} {v : D} {vv : V} {u : Value} (rv : RV K ρ H v vv) (ru : RelV vv u) : ∀ {kvs : List (D × D)} {xs : List (NestedKey × Addr × Value)} {vs : List V}, kvs.map (fun p => keyN p.1) = xs.map (fun x => some x.1) → RVs K ρ H (kvs.map (·.1)) (xs.map fun x => V.ref x.2.1) → Vals vs (xs.map (·.2.2)) → RVs K ρ H (kvs.map (·.2)) vs →
    ∃ vs', (kvs.map fun p => if keyN p.1 = some k then (p.1, v) else p).map (fun p => keyN p.1) = (xs.map (putAt k u)).map (fun x => some x.1) ∧ RVs K ρ H ((kvs.map fun p => if keyN p.1 = some k then (p.1, v) else p).map (·.1)) ((xs.map (putAt k u)).map fun x => V.ref x.2.1) ∧ Vals vs' ((xs.map (putAt k u)).map (·.2.2)) ∧ RVs K ρ H ((kvs.map fun p => if keyN p.1 = some k then (p.1, v) else p).map (·.2)) vs'
  | [], [], vs, _, _, f3, f4 => by
    cases f3
    exact ⟨[], rfl, .nil_, .nil, .nil_⟩
  | [], _ :: _, _, f1, _, _, _ => by cases f1
  | _ :: _, [], _, f1, _, _, _ => by cases f1
  | p :: r, x :: xs, vs, f1, f2, f3, f4 => by
    rw [List.map_cons, List.map_cons] at f1 f2
    rw [List.map_cons] at f3 f4
    injection f1 with h1 h2
    unfold RVs at f2
    obtain ⟨w, ws, e1, r1, r2⟩ := f2
    injection e1 with e1 e2
    subst e1 e2
    cases f3 with
    | @cons v0 _ _ _ v1 v2 =>
      unfold RVs at f4
      obtain ⟨z, zs, e3, r3, r4⟩ := f4
      injection e3 with e3 e4
      subst e3 e4
      obtain ⟨vs', g1, g2, g3, g4⟩ := put_old (k := k) rv ru h2 r2 v2 r4
      by_cases hk : x.1 = k
      · have e5 : putAt k u x = (x.1, x.2.1, u) := if_pos hk
        have e6 : (if keyN p.1 = some k then (p.1, v) else p) = (p.1, v) := if_pos (by rw [h1, hk])
        refine ⟨vv :: vs', ?_, ?_, ?_, ?_⟩
        · rw [List.map_cons, List.map_cons, List.map_cons, List.map_cons, e5, e6, g1, h1]
        · rw [List.map_cons, List.map_cons, List.map_cons, List.map_cons, e5, e6]; exact .cons_ r1 g2
        · rw [List.map_cons, List.map_cons, e5]; exact .cons ru g3
        · rw [List.map_cons, List.map_cons, e6]; exact .cons_ rv g4
      · have e5 : putAt k u x = x := if_neg hk
        have e6 : (if keyN p.1 = some k then (p.1, v) else p) = p := if_neg (by rw [h1]; intro z; exact hk (Option.some.inj z))
        refine ⟨v0 :: vs', ?_, ?_, ?_, ?_⟩
        · rw [List.map_cons, List.map_cons, List.map_cons, List.map_cons, e5, e6, g1, h1]
        · rw [List.map_cons, List.map_cons, List.map_cons, List.map_cons, e5, e6]; exact .cons_ r1 g2
        · rw [List.map_cons, List.map_cons, e5]; exact .cons v1 g3
        · rw [List.map_cons, List.map_cons, e6]; exact .cons_ r3 g4
theorem vals_snoc {vs : List V} {us : List Value} {v : V} {u : Value} (h : Vals vs us) (r : RelV v u) : Vals (vs ++ [v]) (us ++ [u]) := by
  induction h with
  | nil => exact .cons r .nil
  | cons a b ih => exact .cons a ih
theorem set_dn {A : Around} {E : Value → Shared → Prop} {Q : Unit → Shared → Prop} {i : Nat} {a : Addr} {st : Sto} {kvs : List (D × D)} {xs : List (NestedKey × Addr × Value)} {vs : List V} {kd d : D} {y w : V} {u r : Value} {k : NestedKey} (hu : A.units + 9 < cLine) (I : Inv X pins σ H s) (rs : RS X.kw ρ H st) (hi : ρ[i]? = some a) (h : DNe X.kw ρ H a kvs xs vs) (few : kvs.length < sizeLine) (ek : keyN kd = some k)
    (rk : RV X.kw ρ H kd y) (ry : RelV y u) (rd : RV X.kw ρ H d w) (rw' : RelV w r) (hQ : ∀ H' s', Ext X.kw ρ H ρ H' → RS X.kw ρ H' (st.set i (.dct (nput kvs k kd d))) → Inv X pins σ H' s' → Q () s') : wpAny (model X.prog X.w) A (setItem (.ref a) u r) Q E s := by
  obtain ⟨g1, g2⟩ := h.heap I
  obtain ⟨f1, f2, f3, f4⟩ := h.facts
  obtain ⟨b, eu, hb⟩ := keyN_is I rk ry ek
  subst eu
  obtain ⟨hc, hm⟩ := h.chg
  have hl : xs.length = kvs.length := by
    have := congrArg List.length f1
    rw [List.length_map, List.length_map] at this
    exact this.symm
  refine wpAny_setItem_heap (hsz := by rw [hl]; omega) (room_n hu) hb g1 fun h' dd' hs => ?_
  have hm' : a ∈ ρ := List.mem_of_getElem? hi
  have hbV : y = .ref b := by
    obtain ⟨b', e⟩ := rv_keyN rk ek
    rw [e] at ry
    have : Value.ref b = Value.ref b' := ry
    cases this
    exact e
  subst hbV
  have ext := Ext.writeA (K := X.kw) (o := NDO X.w a (storedH xs k b r)) hc hm'
  obtain ⟨o, es, ep, q1, q2, q3, q4, q5, q6⟩ := dd'
  have rob : ∃ xs' vs', DN X.kw ρ (upd H a (NDO X.w a (storedH xs k b r))) a (nput kvs k kd d) xs' vs' := by
    have hat := atKey_some (k := k) f1
    have hlen : (storedH xs k b r).length ≤ sizeLine := by
      unfold storedH
      split
      · rw [List.length_map, hl]; omega
      · rw [List.length_append, List.length_singleton, hl]; omega
    by_cases hk : (nlk kvs k).isSome = true
    · obtain ⟨vs', p1, p2, p3, p4⟩ := put_old (k := k) rd rw' f1 f2 f3 f4
      have e1 : storedH xs k b r = xs.map (putAt k r) := by unfold storedH; rw [if_pos (by rw [hat]; exact hk)]
      have e2 : nput kvs k kd d = kvs.map fun p => if keyN p.1 = some k then (p.1, d) else p := if_pos hk
      rw [← e1] at p1 p2 p3
      rw [← e2] at p1 p2 p4
      refine ⟨storedH xs k b r, vs', upd_same, ?_, hlen, g2, q6, p1, RVs.mono ext _ _ p2, p3, RVs.mono ext _ _ p4⟩
      rw [e2]
      intro z
      rw [List.map_eq_nil_iff] at z
      rw [z] at hk
      cases hk
    · have e1 : storedH xs k b r = xs ++ [(k, b, r)] := by unfold storedH; rw [if_neg (by rw [hat]; exact hk)]
      have e2 : nput kvs k kd d = kvs ++ [(kd, d)] := if_neg hk
      refine ⟨storedH xs k b r, vs ++ [w], upd_same, by rw [e2]; simp, hlen, g2, q6, ?_, ?_, ?_, ?_⟩
      · rw [e1, e2, List.map_append, List.map_append, f1, List.map_cons, List.map_cons, List.map_nil, List.map_nil, ek]
      · have z := (RVs.mono ext _ _ f2).append (.one (RV.mono ext _ _ rk))
        have e3 : (storedH xs k b r).map (fun x => V.ref x.2.1) = (xs.map fun x => V.ref x.2.1) ++ [V.ref b] := by rw [e1, List.map_append]; rfl
        rw [e2, List.map_append, e3]
        exact z
      · rw [e1, List.map_append]; exact vals_snoc f3 rw'
      · rw [e2, List.map_append]
        exact (RVs.mono ext _ _ f4).append (.one (RV.mono ext _ _ rd))
  have rob : ROb X.kw ρ (upd H a (NDO X.w a (storedH xs k b r))) a (.dct (nput kvs k kd d)) := .inr (.inl rob)
  refine hQ _ _ ext (rs.writeA hi hc rob) (d_write (t' := _) I hm hs ⟨o, q1⟩ ⟨⟨o, es, ep, q1, q2, q3, q4⟩, ⟨o, q1⟩, fun h1 h2 ⟨o, es, ep, z1, z2, z3, z4⟩ hk => ⟨o, es, ep, hk _ z1, z2, z3, z4⟩⟩)
theorem DBe.chg {K : Kw} {a : Addr} {kvs : List (D × D)} {xs : List (Bool × Value)} {vs : List V} (h : DBe K ρ H a kvs xs vs) : Chg H a ∧ L2.Mut (H a) := by
  rcases h with ⟨_, _, _, h⟩ | h
  · exact ⟨Chg.dK h, by rw [h]; exact True.intro⟩
  · exact ⟨chg_ext h.at_, by rw [h.at_]; exact True.intro⟩
theorem any_b {kvs : List (D × D)} {xs : List (Bool × Value)} {b : Bool} (f1 : kvs.map (·.1) = xs.map (fun x => D.bl x.1)) : (kvs.any fun p => decide (keyB p.1 = some b)) = xs.any fun x => decide (x.1 = b) := by
  induction kvs generalizing xs with
  | nil => cases xs with | nil => rfl | cons _ _ => cases f1
  | cons p r ih =>
    cases xs with
    | nil => cases f1
    | cons x ys =>
      rw [List.map_cons, List.map_cons] at f1
      injection f1 with h1 h2
      rw [List.any_cons, List.any_cons, ih h2, h1]
      simp [keyB]
theorem put_oldB {K : Kw} {b : Bool} {v : D} {vv : V} {u : Value} (rv : RV K ρ H v vv) (ru : RelV vv u) : ∀ {kvs : List (D × D)} {xs : List (Bool × Value)} {vs : List V}, kvs.map (·.1) = xs.map (fun x => D.bl x.1) → Vals vs (xs.map (·.2)) → RVs K ρ H (kvs.map (·.2)) vs →
    ∃ vs', (kvs.map fun p => if keyB p.1 = some b then (p.1, v) else p).map (·.1) = (xs.map fun x => if x.1 = b then (x.1, u) else x).map (fun x => D.bl x.1) ∧ Vals vs' ((xs.map fun x => if x.1 = b then (x.1, u) else x).map (·.2)) ∧ RVs K ρ H ((kvs.map fun p => if keyB p.1 = some b then (p.1, v) else p).map (·.2)) vs'
  | [], [], vs, _, f3, f4 => by
    cases f3
    exact ⟨[], rfl, .nil, .nil_⟩
  | [], _ :: _, _, f1, _, _ => by cases f1
  | _ :: _, [], _, f1, _, _ => by cases f1
  | p :: r, x :: xs, vs, f1, f3, f4 => by
    rw [List.map_cons, List.map_cons] at f1
    rw [List.map_cons] at f3 f4
    injection f1 with h1 h2
    cases f3 with
    | @cons v0 _ _ _ v1 v2 =>
      unfold RVs at f4
      obtain ⟨z, zs, e3, r3, r4⟩ := f4
      injection e3 with e3 e4
      subst e3 e4
      obtain ⟨vs', g1, g3, g4⟩ := put_oldB (b := b) rv ru h2 v2 r4
      by_cases hk : x.1 = b
      · have e5 : (if x.1 = b then (x.1, u) else x) = (x.1, u) := if_pos hk
        have e6 : (if keyB p.1 = some b then (p.1, v) else p) = (p.1, v) := if_pos (by rw [h1, hk]; rfl)
        refine ⟨vv :: vs', ?_, ?_, ?_⟩
        · rw [List.map_cons, List.map_cons, List.map_cons, List.map_cons, e5, e6, g1, h1]
        · rw [List.map_cons, List.map_cons, e5]; exact .cons ru g3
        · rw [List.map_cons, List.map_cons, e6]; exact .cons_ rv g4
      · have e5 : (if x.1 = b then (x.1, u) else x) = x := if_neg hk
        have e6 : (if keyB p.1 = some b then (p.1, v) else p) = p := if_neg (by rw [h1]; intro z; exact hk (by injection z))
        refine ⟨v0 :: vs', ?_, ?_, ?_⟩
        · rw [List.map_cons, List.map_cons, List.map_cons, List.map_cons, e5, e6, g1, h1]
        · rw [List.map_cons, List.map_cons, e5]; exact .cons v1 g3
        · rw [List.map_cons, List.map_cons, e6]; exact .cons_ r3 g4
theorem set_db {A : Around} {E : Value → Shared → Prop} {Q : Unit → Shared → Prop} {i : Nat} {a : Addr} {st : Sto} {kvs : List (D × D)} {xs : List (Bool × Value)} {vs : List V} {d : D} {w : V} {u r : Value} {b : Bool} (I : Inv X pins σ H s) (rs : RS X.kw ρ H st) (hi : ρ[i]? = some a) (h : DBe X.kw ρ H a kvs xs vs) (few : kvs.length < sizeLine)
    (ry : RelV (.bl b) u) (rd : RV X.kw ρ H d w) (rw' : RelV w r) (hQ : ∀ H' s', Ext X.kw ρ H ρ H' → RS X.kw ρ H' (st.set i (.dct (bput kvs b d))) → Inv X pins σ H' s' → Q () s') : wpAny (model X.prog X.w) A (setItem (.ref a) u r) Q E s := by
  obtain ⟨g1, g2⟩ := h.heap I
  obtain ⟨f1, f3, f4⟩ := h.facts
  obtain ⟨hc, hm⟩ := h.chg
  have hl : xs.length = kvs.length := by
    have := congrArg List.length f1
    rw [List.length_map, List.length_map] at this
    exact this.symm
  refine wpAny_setItem_pairs (hsz := by rw [hl]; omega) (rel_bool ry) g1 (fun h' dd' hs => ?_)
  have hm' : a ∈ ρ := List.mem_of_getElem? hi
  have ext := Ext.writeA (K := X.kw) (o := DBO X.w a (stored xs b r)) hc hm'
  have rob : ∃ xs' vs', DB X.kw ρ (upd H a (DBO X.w a (stored xs b r))) a (bput kvs b d) xs' vs' := by
    have hat := any_b (b := b) f1
    have hlen : (stored xs b r).length ≤ sizeLine := by
      unfold stored
      split
      · rw [List.length_map, hl]; omega
      · rw [List.length_append, List.length_singleton, hl]; omega
    by_cases hk : (kvs.any fun p => decide (keyB p.1 = some b)) = true
    · obtain ⟨vs', p1, p3, p4⟩ := put_oldB (b := b) rd rw' f1 f3 f4
      have e1 : stored xs b r = xs.map fun x => if x.1 = b then (x.1, r) else x := by unfold stored; rw [if_pos (by rw [← hat]; exact hk)]
      have e2 : bput kvs b d = kvs.map fun p => if keyB p.1 = some b then (p.1, d) else p := if_pos hk
      rw [← e1] at p1 p3
      rw [← e2] at p1 p4
      refine ⟨stored xs b r, vs', upd_same, ?_, hlen, g2, p1, p3, RVs.mono ext _ _ p4⟩
      rw [e2]
      intro z
      rw [List.map_eq_nil_iff] at z
      rw [z] at hk
      cases hk
    · have e1 : stored xs b r = xs ++ [(b, r)] := by unfold stored; rw [if_neg (by rw [← hat]; exact hk)]
      have e2 : bput kvs b d = kvs ++ [(.bl b, d)] := if_neg hk
      refine ⟨stored xs b r, vs ++ [w], upd_same, by rw [e2]; simp, hlen, g2, ?_, ?_, ?_⟩
      · rw [e1, e2, List.map_append, List.map_append, f1]; rfl
      · rw [e1, List.map_append]; exact vals_snoc f3 rw'
      · rw [e2, List.map_append]
        exact (RVs.mono ext _ _ f4).append (.one (RV.mono ext _ _ rd))
  have rob : ROb X.kw ρ (upd H a (DBO X.w a (stored xs b r))) a (.dct (bput kvs b d)) := .inr (.inr rob)
  obtain ⟨o, es, ep, q1, _⟩ := id dd'
  refine hQ _ _ ext (rs.writeA hi hc rob) (d_write (t' := _) I hm hs ⟨o, q1⟩ ⟨fun P => bool_prog dd', ⟨o, q1⟩, fun h1 h2 z hk => fun P => ?_⟩)
  obtain ⟨o, es, ep, z1, z2, z3, z4⟩ := z P
  exact ⟨o, es, ep, hk _ z1, z2, z3, z4⟩
end
end Nv

set_option Elab.async false
set_option linter.all false
set_option maxRecDepth 100000
set_option autoImplicit false
set_option maxHeartbeats 4000000
/-! NvSrt: sorted(dict of texts), with any number of keys. -/
namespace Nv
open PySem PySem.Spec PyProof.Rows L2
theorem alike_strs0 (ys : List Str) : PySem.W.AllAlike (ys.map PyData.str) := PySem.W.AllAlike.of fun _ _ => rfl
section
variable {P : Program} {w : World} {A : Around} {E : Value → Shared → Prop} {s : Shared}
theorem sort_strs0 {a : Addr} {n : Nat} {vs : List Value} {ys : List Str} {Q : Value → Shared → Prop} (ho : s.heap.get? a = some (seqObj "list" vs.toArray n)) (e : PySem.W.EachIs (fun v b => ∃ t, v = Value.str b t) vs ys) (hl : ys.length ≤ sizeLine) (hu : A.units + 2 < cLine)
    (h : ∀ out : List Value, PySem.W.EachIs (fun v b => ∃ t, v = Value.str b t) out (ys.mergeSort leS) → Q .none { s with heap := sortedHeap s.heap a vs out.toArray }) : wpAny (model P w) A (call (.builtin "list.sort") [.ref a]) Q E s := by
  refine PySem.W.list_sort_data (enc := PyData.str) ho e (e.mono fun v b ⟨t, q⟩ => ⟨[], by rw [q]; exact .str b t, by simp⟩) (alike_strs0 ys) (PySem.W.Sortable.others fun b => ⟨fun z => (by cases z), fun _ z => (by cases z)⟩) hl (fun b _ => ?_) fun out _ q => ?_
  · show A.units + 1 + 0 < cLine
    omega
  · rw [PySem.W.dataLe_str] at q
    exact h out q
end
theorem each_of_strs : ∀ {vs : List Value} {ks : List Str}, StrsAre vs ks → PySem.W.EachIs (fun v b => ∃ t, v = Value.str b t) vs ks
  | _, _, .nil => .nil
  | _, _, .cons x t r => .cons ⟨t, rfl⟩ (each_of_strs r)
theorem vals_of_each : ∀ {vs : List Value} {ks : List Str}, PySem.W.EachIs (fun v b => ∃ t, v = Value.str b t) vs ks → Vals (ks.map V.str) vs
  | _, _, .nil => .nil
  | _, _, .cons ⟨t, e⟩ r => .cons ⟨t, e⟩ (vals_of_each r)
section
variable {X : Cx}
/-- sorted(d) of a dict whose keys are texts -/
theorem call_sortedX (hu : X.A.units + 65 < cLine) (hcalm : X.calm = true) : CallR X (.builtin "sorted") (fun xs H Q => ∃ (a : Addr) (kvs : List (Key × V)) (ks : List Str), xs = [.ref a] ∧ Rd H a (.dK kvs) ∧ kvs.map (·.1) = ks.map Sum.inr ∧ ks.length ≤ 1000 ∧
    ∀ p, H p = none → Q (.ref p) (upd H p (.lst ((ks.mergeSort leS).map V.str)))) := by
  intro pins s σ H xs us Q I r q
  obtain ⟨a, kvs, ks, ex, hd, hks, h64, q⟩ := q
  subst ex
  obtain ⟨u, eu, rx⟩ := vals1 r
  subst eu
  cases rx
  obtain ⟨z, lo, vs, rel, dd⟩ := dk_rd I.hok hd
  obtain ⟨ep, hat⟩ := dd.dictAt
  have hkeys : vs.map (·.1) = ks.map Sum.inr := rel.keys.symm.trans hks
  have hl : vs.length = ks.length := by
    have e := congrArg List.length hkeys
    rw [List.length_map, List.length_map] at e
    exact e
  have h16 : vs.length ≤ sizeLine := by rw [hl, sizeLine_eq]; omega
  refine Calls.call_function_entry PyProof.Rows.kind_sorted PyProof.Rows.plain_sorted PyProof.Rows.entry_sorted (PyProof.Rows.args_sorted1 _) ?_
  unfold Builtin.«sorted»
  refine wpAny_bind (m := checkCount "sorted" 1 1 _) (wpAny_pure ?_)
  refine wpAny_bind (PySem.W.kdu_collect (A := X.A.in1) (PySem.W.kdl_dict (knd := mixKind X.prog X.w) (kvs := vs) (ep := ep) lo) (I.ok.hd hcalm) hat h16 fun h' tk acc hk hacc => ?_)
  have hal : acc.toList.length = ks.length := by rw [Array.length_toList, hacc.1, hl]
  have hS : StrsAre acc.toList ks := strs_at hal fun j v e => by
    obtain ⟨k, x, e1, e2⟩ := hacc.2 j v (by rw [← Array.getElem?_toList]; exact e)
    have e3 : (vs.map (·.1))[j]? = some k := by rw [List.getElem?_map, e1]; all_goals rfl
    rw [hkeys, List.getElem?_map] at e3
    cases e4 : ks[j]? with
    | none => rw [e4] at e3; cases e3
    | some y =>
      rw [e4] at e3
      have e5 : Sum.inr y = k := Option.some.inj e3
      subst e5
      obtain ⟨t, ev⟩ := Value.isStrOf_shape (x := y) (v := v) e2
      exact ⟨y, t, rfl, ev⟩
  have I1 : Inv X pins σ H { s with heap := h', toks := tk } := I.kept hk
  refine wpAny_bind (wpAny_newList ?_ (by rw [hal, sizeLine_eq]; omega))
  have hoL : (h'.push (seqObj "list" acc.toList.toArray 0)).get? h'.objs.size = some (seqObj "list" acc.toList.toArray 0) := Heap.get?_push_size _ rfl
  show wpAny _ _ _ _ _ { s with heap := h'.push (seqObj "list" acc.toList.toArray 0), toks := tk }
  refine wpAny_bind (wpAny_holding (sort_strs0 (s := { s with heap := h'.push (seqObj "list" acc.toList.toArray 0), toks := tk }) hoL (each_of_strs hS) (by rw [sizeLine_eq]; omega) (by show X.A.units + 1 + 2 < cLine; omega) fun out g => ?_))
  obtain ⟨e', he'⟩ := PyProof.Rows.sortedHeap_at (vs := acc.toList) (out := out.toArray) hoL
  have hlen : ((ks.mergeSort leS).map V.str).length ≤ sizeLine := by
    rw [List.length_map, (List.mergeSort_perm ks leS).length_eq, sizeLine_eq]; omega
  refine wpAny_pure ⟨_, rfl, .ref h'.objs.size, upd H h'.objs.size (.lst ((ks.mergeSort leS).map V.str)), I1.laid (t' := tk) (fun b u e => ?_) (Nat.le_refl _)
    (show ObjOk X.prog X.w _ _ _ (.lst ((ks.mergeSort leS).map V.str)) from ⟨hlen, out, e', vals_of_each g, he'⟩), rfl, q _ (I1.hok.fresh (Nat.le_refl _))⟩
  have hb : b < h'.objs.size := Heap.lt_size e
  show (sortedHeap (h'.push (seqObj "list" acc.toList.toArray 0)) h'.objs.size acc.toList out.toArray).get? b = some u
  rw [PyProof.Rows.sortedHeap_old (Nat.ne_of_lt hb) (by rw [size_push']; exact Nat.lt_succ_of_lt hb)]
  exact Heap.get?_push_of_some _ e
end
end Nv

set_option Elab.async false
set_option linter.all false
set_option maxRecDepth 100000
set_option autoImplicit false
set_option maxHeartbeats 4000000
/-! NvSrtN: sorted(x) of lists and dicts of nested data, of any length. -/
namespace Nv
open PySem PySem.Spec PyProof.Rows L2
mutual
theorem pure_inj : ∀ (a b : D) (p : PyData), pyW (fun _ => none) a = some p → pyW (fun _ => none) b = some p → pureP p = true → a = b
  | .non, b, p, ha, hb, hp => by unfold pyW at ha; cases ha; simp [pureP] at hp
  | .bl x, b, p, ha, hb, hp => by
    unfold pyW at ha; cases ha
    cases b with
    | bl y => unfold pyW at hb; cases hb; rfl
    | tup ys => unfold pyW at hb; obtain ⟨_, _, e⟩ := Option.map_eq_some_iff.mp hb; cases e
    | lf ys => unfold pyW at hb; obtain ⟨_, _, e⟩ := Option.map_eq_some_iff.mp hb; cases e
    | _ => unfold pyW at hb; cases hb
  | .int x, b, p, ha, hb, hp => by
    unfold pyW at ha; cases ha
    cases b with
    | int y => unfold pyW at hb; cases hb; rfl
    | tup ys => unfold pyW at hb; obtain ⟨_, _, e⟩ := Option.map_eq_some_iff.mp hb; cases e
    | lf ys => unfold pyW at hb; obtain ⟨_, _, e⟩ := Option.map_eq_some_iff.mp hb; cases e
    | _ => unfold pyW at hb; cases hb
  | .str x, b, p, ha, hb, hp => by
    unfold pyW at ha; cases ha
    cases b with
    | str y => unfold pyW at hb; cases hb; rfl
    | tup ys => unfold pyW at hb; obtain ⟨_, _, e⟩ := Option.map_eq_some_iff.mp hb; cases e
    | lf ys => unfold pyW at hb; obtain ⟨_, _, e⟩ := Option.map_eq_some_iff.mp hb; cases e
    | _ => unfold pyW at hb; cases hb
  | .tup xs, b, p, ha, hb, hp => by
    unfold pyW at ha
    obtain ⟨ps, e1, rfl⟩ := Option.map_eq_some_iff.mp ha
    cases b with
    | tup ys =>
      unfold pyW at hb
      obtain ⟨qs, e2, e3⟩ := Option.map_eq_some_iff.mp hb
      injection e3 with e3
      subst e3
      rw [pures_inj xs ys qs e1 e2 (pureP_tup hp)]
    | lf ys => unfold pyW at hb; obtain ⟨_, _, e⟩ := Option.map_eq_some_iff.mp hb; cases e
    | _ => unfold pyW at hb; cases hb
  | .lf xs, b, p, ha, hb, hp => by
    unfold pyW at ha
    obtain ⟨ps, e1, rfl⟩ := Option.map_eq_some_iff.mp ha
    simp [pureP] at hp
  | .ld _ _, b, p, ha, hb, hp => by unfold pyW at ha; cases ha
  | .obj _, b, p, ha, hb, hp => by unfold pyW at ha; cases ha
theorem pures_inj : ∀ (as bs : List D) (ps : List PyData), pyWs (fun _ => none) as = some ps → pyWs (fun _ => none) bs = some ps → purePs ps = true → as = bs
  | [], bs, ps, ha, hb, hp => by
    unfold pyWs at ha; cases ha
    cases bs with
    | nil => rfl
    | cons y ys =>
      unfold pyWs at hb
      cases q : pyW (fun _ => none) y with
      | none => rw [q] at hb; cases hb
      | some p =>
        rw [q] at hb
        obtain ⟨_, _, e⟩ := Option.map_eq_some_iff.mp (show (pyWs (fun _ => none) ys).map (p :: ·) = some [] from hb)
        cases e
  | x :: xs, bs, ps, ha, hb, hp => by
    unfold pyWs at ha
    cases q : pyW (fun _ => none) x with
    | none => rw [q] at ha; cases ha
    | some p =>
      rw [q] at ha
      obtain ⟨pr, e1, rfl⟩ := Option.map_eq_some_iff.mp (show (pyWs (fun _ => none) xs).map (p :: ·) = some ps from ha)
      obtain ⟨h1, h2⟩ := purePs_cons hp
      cases bs with
      | nil => unfold pyWs at hb; cases hb
      | cons y ys =>
        unfold pyWs at hb
        cases q2 : pyW (fun _ => none) y with
        | none => rw [q2] at hb; cases hb
        | some p2 =>
          rw [q2] at hb
          obtain ⟨pr2, e2, e3⟩ := Option.map_eq_some_iff.mp (show (pyWs (fun _ => none) ys).map (p2 :: ·) = some (p :: pr) from hb)
          injection e3 with e3 e4
          subst e3 e4
          rw [pure_inj x y p2 q q2 h1, pures_inj xs ys pr2 e1 e2 h2]
end
theorem leD_tot (a b : D) : (leD a b || leD b a) = true := by
  unfold leD
  cases h : PySem.W.dataLt (pyD b) (pyD a) with
  | false => rfl
  | true =>
    cases q : PySem.W.dataLt (pyD a) (pyD b) with
    | false => rfl
    | true =>
      have z : lx (PySem.W.keyToks (pyD b)) (PySem.W.keyToks (pyD b)) = true := lex_trans (O := itemOrd) _ _ _ h q
      rw [show lx (PySem.W.keyToks (pyD b)) (PySem.W.keyToks (pyD b)) = false from lex_irrefl _] at z
      cases z
theorem leD_tr (a b c : D) (h1 : leD a b = true) (h2 : leD b c = true) : leD a c = true := by
  unfold leD at *
  cases q : PySem.W.dataLt (pyD c) (pyD a) with
  | false => rfl
  | true =>
    rcases lex_negTrans (O := itemOrd) (PySem.W.keyToks (pyD c)) (PySem.W.keyToks (pyD b)) (PySem.W.keyToks (pyD a)) q with g | g
    · have g : PySem.W.dataLt (pyD c) (pyD b) = true := g
      rw [g] at h2; cases h2
    · have g : PySem.W.dataLt (pyD b) (pyD a) = true := g
      rw [g] at h1; cases h1
structure SrtOk (ps : List PyData) : Prop where
  pu : ∀ p ∈ ps, pureP p = true
  cm : ∀ p ∈ ps, ∀ q ∈ ps, cmpb p q = true
  dp : ∀ p ∈ ps, p.depth ≤ 60
  le : ps.length ≤ 1000000
theorem srtOk_of {ps : List PyData} (h : srtOk ps = true) : SrtOk ps := by
  unfold srtOk at h
  rw [Bool.and_eq_true, Bool.and_eq_true, Bool.and_eq_true] at h
  obtain ⟨⟨⟨h1, h2⟩, h3⟩, h4⟩ := h
  exact ⟨List.all_eq_true.mp h1, fun p hp q hq => List.all_eq_true.mp (List.all_eq_true.mp h2 p hp) q hq, fun p hp => of_decide_eq_true (List.all_eq_true.mp h3 p hp), of_decide_eq_true h4⟩
theorem srtD_some {ds rs : List D} (h : srtD ds = some rs) : ∃ ps, pyWs (fun _ => none) ds = some ps ∧ SrtOk ps ∧ rs = ds.mergeSort leD := by
  unfold srtD at h
  obtain ⟨ps, e1, e2⟩ := Option.bind_eq_some_iff.mp h
  split at e2
  · rename_i q
    cases e2
    exact ⟨ps, e1, srtOk_of q, rfl⟩
  · cases e2
theorem pyWs_mem : ∀ {ds : List D} {ps : List PyData}, pyWs (fun _ => none) ds = some ps → (∀ d ∈ ds, ∃ p ∈ ps, pyW (fun _ => none) d = some p) ∧ ps.length = ds.length
  | [], ps, h => by unfold pyWs at h; cases h; exact ⟨fun d hd => (by cases hd), rfl⟩
  | x :: xs, ps, h => by
    unfold pyWs at h
    cases q : pyW (fun _ => none) x with
    | none => rw [q] at h; cases h
    | some p =>
      rw [q] at h
      obtain ⟨pr, e1, rfl⟩ := Option.map_eq_some_iff.mp (show (pyWs (fun _ => none) xs).map (p :: ·) = some ps from h)
      obtain ⟨i1, i2⟩ := pyWs_mem e1
      refine ⟨fun d hd => ?_, by rw [List.length_cons, List.length_cons, i2]⟩
      rcases List.mem_cons.mp hd with e | hd
      · rw [e]; exact ⟨p, .head _, q⟩
      · obtain ⟨z, z1, z2⟩ := i1 d hd; exact ⟨z, .tail _ z1, z2⟩
theorem pyD_of {d : D} {p : PyData} (h : pyW (fun _ => none) d = some p) : pyD d = p := by unfold pyD; rw [h]; rfl
theorem each_perm {α β : Type} {R : α → β → Prop} {out us : List α} (h : out.Perm us) : ∀ {ds : List β}, PySem.W.EachIs R us ds → ∃ ds', ds'.Perm ds ∧ PySem.W.EachIs R out ds' := by
  induction h with
  | nil => intro ds e; cases e; exact ⟨[], .nil, .nil⟩
  | cons x _ ih =>
    intro ds e
    cases e with
    | cons h t =>
      obtain ⟨ds', p, q⟩ := ih t
      exact ⟨_ :: ds', p.cons _, .cons h q⟩
  | swap x y l =>
    intro ds e
    cases e with
    | cons h t =>
      cases t with
      | cons h2 t2 => exact ⟨_, .swap _ _ _, .cons h2 (.cons h t2)⟩
  | trans _ _ ih1 ih2 =>
    intro ds e
    obtain ⟨d2, p2, q2⟩ := ih2 e
    obtain ⟨d1, p1, q1⟩ := ih1 q2
    exact ⟨d1, p1.trans p2, q1⟩
section
variable {K : Kw} {ρ : List Addr} {H : Hp}
abbrev RlU (K : Kw) (ρ : List Addr) (H : Hp) (u : Value) (d : D) : Prop := ∃ v, RV K ρ H d v ∧ RelV v u
theorem each_rv : ∀ {ds : List D} {vs : List V} {us : List Value}, RVs K ρ H ds vs → Vals vs us → PySem.W.EachIs (RlU K ρ H) us ds
  | [], _, _, h, v => by unfold RVs at h; subst h; cases v; exact .nil
  | d :: ds, _, _, h, v => by
    unfold RVs at h
    obtain ⟨w, r, rfl, h1, h2⟩ := h
    cases v with
    | cons v1 v2 => exact .cons ⟨w, h1, v1⟩ (each_rv h2 v2)
theorem rv_each : ∀ {us : List Value} {ds : List D}, PySem.W.EachIs (RlU K ρ H) us ds → ∃ vs, RVs K ρ H ds vs ∧ Vals vs us
  | _, _, .nil => ⟨[], .nil_, .nil⟩
  | _, _, .cons ⟨w, h1, v1⟩ t => by
    obtain ⟨vs, h2, v2⟩ := rv_each t
    exact ⟨w :: vs, .cons_ h1 h2, .cons v1 v2⟩
theorem each_toks {h : Heap} : ∀ {us : List Value} {ds : List D} {ps : List PyData}, PySem.W.EachIs (RlU K ρ H) us ds → RdE h us ps → pyWs (fun _ => none) ds = some ps → (∀ p ∈ ps, pureP p = true) → PySem.W.EachIs (fun u d => RlU K ρ H u d ∧ tkV h u = PySem.W.keyToks (pyD d)) us ds
  | _, _, _, .nil, _, _, _ => .nil
  | u :: us, d :: ds, ps, .cons r t, rd, e, hp => by
    unfold pyWs at e
    cases q : pyW (fun _ => none) d with
    | none => rw [q] at e; cases e
    | some p =>
      rw [q] at e
      obtain ⟨pr, e1, rfl⟩ := Option.map_eq_some_iff.mp (show (pyWs (fun _ => none) ds).map (p :: ·) = some ps from e)
      cases rd with
      | cons r1 r2 =>
        obtain ⟨as, r1⟩ := r1
        exact .cons ⟨r, by rw [pyD_of q]; exact tkV_of (hp p (.head _)) r1⟩ (each_toks t r2 e1 fun z hz => hp z (.tail _ hz))
theorem each_right {α β : Type} {R : α → β → Prop} : ∀ {as : List α} {bs : List β}, PySem.W.EachIs R as bs → ∀ b ∈ bs, ∃ a ∈ as, R a b
  | _, _, .nil, b, hb => by cases hb
  | _, _, .cons h t, b, hb => by
    rcases List.mem_cons.mp hb with e | hb
    · rw [e]; exact ⟨_, .head _, h⟩
    · obtain ⟨a, ha, r⟩ := each_right t b hb
      exact ⟨a, .tail _ ha, r⟩
theorem pw_of {h : Heap} : ∀ {us : List Value} {ds : List D}, PySem.W.EachIs (fun u d => RlU K ρ H u d ∧ tkV h u = PySem.W.keyToks (pyD d)) us ds → SrtO.Srtd (ltV h) us → ds.Pairwise fun a b => leD a b = true
  | _, _, .nil, _ => .nil
  | u :: us, d :: ds, .cons r t, s => by
    obtain ⟨s1, s2⟩ := List.pairwise_cons.mp s
    refine List.pairwise_cons.mpr ⟨fun b hb => ?_, pw_of t s2⟩
    obtain ⟨u2, hu2, r2⟩ := each_right t b hb
    have z := s1 u2 hu2
    unfold leD
    have z' : lx (tkV h u2) (tkV h u) = false := z
    rw [r2.2, r.2] at z'
    rw [show PySem.W.dataLt (pyD b) (pyD d) = false from z']
    rfl
/-- what comes out, as data -/
theorem out_D {h : Heap} {us out : List Value} {ds : List D} {ps : List PyData} (e : PySem.W.EachIs (RlU K ρ H) us ds) (rd : RdE h us ps) (eq : pyWs (fun _ => none) ds = some ps) (ok : SrtOk ps) (hs : SrtO.Srtd (ltV h) out) (hp : out.Perm us) : ∃ vs, RVs K ρ H (ds.mergeSort leD) vs ∧ Vals vs out := by
  have e2 := each_toks e rd eq ok.pu
  obtain ⟨ds', p, q⟩ := each_perm hp e2
  have pw := pw_of q hs
  have hd : ds' = ds.mergeSort leD := by
    refine List.Perm.eq_of_pairwise (le := fun a b => leD a b = true) (fun a b ha hb p1 p2 => ?_) pw ?_ (p.trans (List.mergeSort_perm _ _).symm)
    · obtain ⟨m, _⟩ := pyWs_mem eq
      obtain ⟨pa, ma, ea⟩ := m a (p.mem_iff.mp ha)
      obtain ⟨pb, mb, eb⟩ := m b ((List.mergeSort_perm ds leD).mem_iff.mp hb)
      unfold leD at p1 p2
      rw [pyD_of ea, pyD_of eb] at p1 p2
      have z1 : PySem.W.dataLt pb pa = false := by cases z : PySem.W.dataLt pb pa with | false => rfl | true => rw [z] at p1; cases p1
      have z2 : PySem.W.dataLt pa pb = false := by cases z : PySem.W.dataLt pa pb with | false => rfl | true => rw [z] at p2; cases p2
      have z3 := lt_anti (ok.cm pa ma pb mb) z2 z1
      subst z3
      exact pure_inj a b pa ea eb (ok.pu pa ma)
    · exact List.pairwise_mergeSort (fun a b c => leD_tr a b c) (fun a b => leD_tot a b) ds
  rw [← hd]
  have q' : PySem.W.EachIs (RlU K ρ H) out ds' := q.mono fun _ _ z => z.1
  exact rv_each q'
theorem rd_each {X : Cx} {pins : List (Addr × Obj)} {σ : L2.St} {s : Shared} {H : Hp} (I : Inv X pins σ H s) : ∀ {ds : List D} {vs : List V} {us : List Value} {ps : List PyData}, RVs X.kw ρ H ds vs → Vals vs us → pyWs (fun _ => none) ds = some ps → RdE s.heap us ps
  | [], _, _, _, h, v, e => by unfold RVs at h; subst h; cases v; unfold pyWs at e; cases e; exact .nil
  | d :: ds, _, _, ps, h, v, e => by
    unfold RVs at h
    obtain ⟨w, r, rfl, h1, h2⟩ := h
    unfold pyWs at e
    cases q : pyW (fun _ => none) d with
    | none => rw [q] at e; cases e
    | some p =>
      rw [q] at e
      obtain ⟨pr, e1, rfl⟩ := Option.map_eq_some_iff.mp (show (pyWs (fun _ => none) ds).map (p :: ·) = some ps from e)
      cases v with
      | cons v1 v2 =>
        have dp : Dp X.K H w p := pyW_ok (K := X.kw) (fun i a p q => by cases q) d w p h1 q
        exact .cons (Dp.reads I p w _ dp v1) (rd_each I h2 v2 e1)
theorem keep_rd {h h' : Heap} (k : ∀ b o, h.get? b = some o → h'.get? b = some o) {us : List Value} {ps : List PyData} (hp : ∀ p ∈ ps, pureP p = true) (e : RdE h us ps) : RdE h' us ps :=
  (PySem.W.each_mem e).mono fun v d ⟨⟨as, r⟩, hd⟩ => ⟨as, PyProof.Rows.Reads.keeps k r⟩
end
/-! ### dicts, whatever their keys -/
section
variable {X : Cx} {ρ : List Addr} {H : Hp}
/-- the entries of the dict at a -/
def RawD (X : Cx) (H : Hp) (a : Addr) (kv wv : List V) : Prop := ∀ pins σ s, Inv X pins σ H s → ∃ es ep, s.heap.DictRaw a es ep ∧ (a == sysModules) = false ∧ es.size ≤ sizeLine ∧ Vals kv (es.toList.map (·.key)) ∧ Vals wv (es.toList.map (·.val))
theorem raw_k {a : Addr} {vs : List (Key × V)} (h : Rd H a (.dK vs)) : RawD X H a (vs.map fun p => kV p.1) (vs.map (·.2)) := fun pins σ s I => by
  obtain ⟨z, hd, us, rel, o, es, ep, h1, h2, h3, h4, h5, h6⟩ := dk_rd I.hok h
  have l1 := h5.length
  have l2 : vs.length = us.length := rel.length
  refine ⟨es, ep, ⟨o, h1, h2, h3⟩, hd, by rw [Array.length_toList] at l1; omega, ?_, ?_⟩
  · have : ∀ {vs : List (Key × V)} {us : List (Key × Value)} {l : List DictEntry}, KV vs us → Pairs (mixKind X.prog X.w) l us → Vals (vs.map fun p => kV p.1) (l.map (·.key)) := by
      intro vs us l k
      induction k generalizing l with
      | nil => intro p; cases p; exact .nil
      | cons e _ ih =>
        intro p
        cases p with
        | cons q1 q2 q3 =>
          refine .cons ?_ (ih q3)
          show RelV (kV _) _
          rw [e.1]
          exact relV_key q1
    exact this rel h5
  · have : ∀ {vs : List (Key × V)} {us : List (Key × Value)} {l : List DictEntry}, KV vs us → Pairs (mixKind X.prog X.w) l us → Vals (vs.map (·.2)) (l.map (·.val)) := by
      intro vs us l k
      induction k generalizing l with
      | nil => intro p; cases p; exact .nil
      | cons e _ ih =>
        intro p
        cases p with
        | cons q1 q2 q3 =>
          refine .cons ?_ (ih q3)
          show RelV _ (DictEntry.val _)
          rw [q2]
          exact e.2
    exact this rel h5
theorem raw_n {a : Addr} {kvs : List (D × D)} {xs : List (NestedKey × Addr × Value)} {vs : List V} (h : DN X.kw ρ H a kvs xs vs) : RawD X H a (xs.map fun x => V.ref x.2.1) vs := fun pins σ s I => by
  obtain ⟨⟨o, es, ep, h1, h2, h3, h4⟩, _⟩ := (show ObjOk X.prog X.w H s.heap a (NDO X.w a xs) from I.hok a _ h.at_)
  refine ⟨es, ep, ⟨o, h1, h2, h3⟩, h.sys, by rw [← Array.length_toList, h4, List.length_map]; exact h.few, ?_, ?_⟩
  · rw [h4, List.map_map]
    have : ∀ xs : List (NestedKey × Addr × Value), Vals (xs.map fun x => V.ref x.2.1) (xs.map ((fun e : DictEntry => e.key) ∘ entN X.w)) := by
      intro xs
      induction xs with
      | nil => exact .nil
      | cons x xs ih => exact .cons rfl ih
    exact this xs
  · rw [h4, List.map_map]
    exact h.vl
theorem raw_b {a : Addr} {kvs : List (D × D)} {xs : List (Bool × Value)} {vs : List V} (h : DB X.kw ρ H a kvs xs vs) : RawD X H a (xs.map fun x => V.bl x.1) vs := fun pins σ s I => by
  obtain ⟨o, es, ep, h1, h2, h3, h4, h5, h6⟩ := h.heap I
  have l1 := h5.length
  refine ⟨es, ep, ⟨o, h1, h2, h3⟩, h.sys, by rw [← Array.length_toList, l1]; exact h.few, ?_, ?_⟩
  · have : ∀ {xs : List (Bool × Value)} {l : List DictEntry}, Pairs (boolKind X.prog X.w) l xs → Vals (xs.map fun x => V.bl x.1) (l.map (·.key)) := by
      intro xs l p
      induction p with
      | nil => exact .nil
      | cons q1 q2 _ ih =>
        refine .cons ?_ ih
        show RelV (V.bl _) (DictEntry.key _)
        rw [boolIs_eq q1]
        rfl
    exact this h5
  · have : ∀ {xs : List (Bool × Value)} {l : List DictEntry}, Pairs (boolKind X.prog X.w) l xs → l.map (·.val) = xs.map (·.2) := by
      intro xs l p
      induction p with
      | nil => rfl
      | cons q1 q2 _ ih => rw [List.map_cons, List.map_cons, ih, q2]
    rw [this h5]
    exact h.vl
theorem raw_any {st : Sto} {a : RD} {x : V} {H0 : Hp} {kvs : List (D × D)} (rs : RS X.kw ρ H st) (ra : RR X.kw H0 ρ H a x) (h : anyD st a = some kvs) : ∃ p kv wv, x = .ref p ∧ RVs X.kw ρ H (kvs.map (·.1)) kv ∧ RVs X.kw ρ H (kvs.map (·.2)) wv ∧ RawD X H p kv wv := by
  have kk : ∀ {vs : List (Key × V)} {ks : List D}, vs.map (fun p => keyD p.1) = ks → RVs X.kw ρ H ks (vs.map fun p => kV p.1) := by
    intro vs
    induction vs with
    | nil => intro ks e; rw [← e]; exact .nil_
    | cons v vs ih =>
      intro ks e
      rw [← e, List.map_cons, List.map_cons]
      refine .cons_ ?_ (ih rfl)
      cases hv : v.1 with
      | inl i => exact rv_int.mpr rfl
      | inr x => exact rv_str.mpr rfl
  obtain ⟨p, rfl, q⟩ := anyD_ok rs ra h
  rcases q with (⟨vs, h1, h2, h3⟩ | ⟨xs, vs, h⟩ | ⟨xs, vs, h⟩) | ⟨o, vs, h1, h2, h3⟩
  · exact ⟨p, _, _, rfl, kk h2, h3, raw_k (.inl h1)⟩
  · exact ⟨p, _, _, rfl, h.rk, h.rv, raw_n h⟩
  · refine ⟨p, _, _, rfl, ?_, h.rv, raw_b h⟩
    rw [h.ks]
    have : ∀ xs : List (Bool × Value), RVs X.kw ρ H (xs.map fun x => D.bl x.1) (xs.map fun x => V.bl x.1) := by
      intro xs
      induction xs with
      | nil => exact .nil_
      | cons x xs ih => exact .cons_ (rv_bl.mpr rfl) ih
    exact this xs
  · exact ⟨p, _, _, rfl, kk h2, h3, raw_k (.inr ⟨o, h1⟩)⟩
theorem vals_map_get {kv : List V} {us : List Value} (h : Vals kv us) : us.length = kv.length := by
  induction h with
  | nil => rfl
  | cons _ _ ih => rw [List.length_cons, List.length_cons, ih]
/-- sorted(d), whatever its keys -/
theorem call_sortedN (hu : X.A.units + 65 < cLine) (hcalm : X.calm = true) : CallR X (.builtin "sorted") (fun xs H Q => ∃ (a : Addr) (ρ : List Addr) (ks : List D) (kv wv : List V) (ps : List PyData), xs = [.ref a] ∧ RawD X H a kv wv ∧ RVs X.kw ρ H ks kv ∧ pyWs (fun _ => none) ks = some ps ∧ SrtOk ps ∧
    ∀ p vs, H p = none → RVs X.kw ρ H (ks.mergeSort leD) vs → Q (.ref p) (upd H p (.lst vs))) := by
  intro pins s σ H xs us Q I r q
  obtain ⟨a, ρ, ks, kv, wv, ps, ex, raw, rk, eps, ok, q⟩ := q
  subst ex
  obtain ⟨u, eu, rx⟩ := vals1 r
  subst eu
  cases rx
  obtain ⟨es, ep, hraw, lo, h16, vk, _⟩ := raw _ _ _ I
  refine Calls.call_function_entry PyProof.Rows.kind_sorted PyProof.Rows.plain_sorted PyProof.Rows.entry_sorted (PyProof.Rows.args_sorted1 _) ?_
  unfold Builtin.«sorted»
  refine wpAny_bind (m := checkCount "sorted" 1 1 _) (wpAny_pure ?_)
  refine wpAny_bind (PySem.W.kdu_collect (A := X.A.in1) (PySem.KdlSrc.rawDict (es := es) (ep := ep) lo) (I.ok.hd hcalm) hraw h16 fun h' tk acc hk hacc => ?_)
  have hal : acc.toList = es.toList.map (·.key) := by
    refine List.ext_getElem? fun j => ?_
    by_cases hj : j < es.size
    · have hja : j < acc.size := by rw [hacc.1]; exact hj
      obtain ⟨hi, e⟩ := hacc.2 j acc[j] (by rw [Array.getElem?_eq_getElem hja])
      rw [Array.getElem?_toList, Array.getElem?_eq_getElem hja, List.getElem?_map, Array.getElem?_toList, Array.getElem?_eq_getElem hj, e]
      rfl
    · rw [List.getElem?_eq_none (by rw [Array.length_toList, hacc.1]; omega), List.getElem?_eq_none (by rw [List.length_map, Array.length_toList]; omega)]
  have hlen : acc.toList.length ≤ sizeLine := by rw [hal, List.length_map, Array.length_toList]; exact h16
  have I1 : Inv X pins σ H { s with heap := h', toks := tk } := I.kept hk
  rw [← hal] at vk
  refine wpAny_bind (wpAny_newList ?_ hlen)
  have hoL : (h'.push (seqObj "list" acc.toList.toArray 0)).get? h'.objs.size = some (seqObj "list" acc.toList.toArray 0) := Heap.get?_push_size _ rfl
  show wpAny _ _ _ _ _ { s with heap := h'.push (seqObj "list" acc.toList.toArray 0), toks := tk }
  have rd0 : RdE h' acc.toList ps := rd_each I1 rk vk eps
  have rd : RdE (h'.push (seqObj "list" acc.toList.toArray 0)) acc.toList ps := keep_rd (fun b o e => Heap.get?_push_of_some _ e) ok.pu rd0
  refine wpAny_bind (wpAny_holding (sort_pure (s := { s with heap := h'.push (seqObj "list" acc.toList.toArray 0), toks := tk }) hoL rd hlen ok.pu ok.cm (fun d hd => ?_) fun out hs hp => ?_))
  · have := ok.dp d hd
    show X.A.units + 1 + 1 + d.depth < cLine
    omega
  obtain ⟨vs, rvs, vls⟩ := out_D (each_rv rk vk) rd eps ok hs hp
  obtain ⟨e', he'⟩ := PyProof.Rows.sortedHeap_at (vs := acc.toList) (out := out.toArray) hoL
  have hl2 : vs.length ≤ sizeLine := by
    have := vals_map_get vls
    rw [← this, hp.length_eq]; exact hlen
  refine wpAny_pure ⟨_, rfl, .ref h'.objs.size, upd H h'.objs.size (.lst vs), I1.laid (t' := tk) (fun b u e => ?_) (Nat.le_refl _)
    (show ObjOk X.prog X.w _ _ _ (.lst vs) from ⟨hl2, out, e', vls, he'⟩), rfl, q _ _ (I1.hok.fresh (Nat.le_refl _)) rvs⟩
  have hb : b < h'.objs.size := Heap.lt_size e
  show (sortedHeap (h'.push (seqObj "list" acc.toList.toArray 0)) h'.objs.size acc.toList out.toArray).get? b = some u
  rw [PyProof.Rows.sortedHeap_old (Nat.ne_of_lt hb) (by rw [size_push']; exact Nat.lt_succ_of_lt hb)]
  exact Heap.get?_push_of_some _ e
/-- sorted(xs) of a list -/
theorem call_sortedLN (hu : X.A.units + 65 < cLine) (hcalm : X.calm = true) : CallR X (.builtin "sorted") (fun xs H Q => ∃ (a : Addr) (ρ : List Addr) (ds : List D) (vs : List V) (ps : List PyData), xs = [.ref a] ∧ SqL X.K H a vs ∧ RVs X.kw ρ H ds vs ∧ pyWs (fun _ => none) ds = some ps ∧ SrtOk ps ∧
    ∀ p ws, H p = none → RVs X.kw ρ H (ds.mergeSort leD) ws → Q (.ref p) (upd H p (.lst ws))) := by
  intro pins s σ H xs us Q I r q
  obtain ⟨a, ρ, ds, vs, ps, rfl, hs, rk, eps, ok, q⟩ := q
  obtain ⟨its, rv, hl, _⟩ := I.list hs
  rw [Vals.ref1 r]
  have hlen : its.length ≤ sizeLine := by
    have h1 := vals_map_get rv
    have h2 := rk.length
    have h3 := (pyWs_mem eps).2
    have h4 := ok.le
    rw [sizeLine_eq]; omega
  have rd : RdE s.heap its ps := rd_each I rk rv eps
  refine SrtO.sorted_ord (ltV_swo s.heap) hl.isList hlen (fun h2 h₁ a1 ha kk => ?_) fun out hs hb => ?_
  · have rd1 : RdE h₁ its ps := keep_rd (fun b o e => (kk b o e).2) ok.pu rd
    have e : ∀ v ∈ its, tkV h₁ v = tkV s.heap v := fun v hv => by
      obtain ⟨d, hd, as, r1⟩ := rd.left v hv
      rw [tkV_of (ok.pu d hd) r1, tkV_of (ok.pu d hd) (PyProof.Rows.Reads.keeps (fun b o e => (kk b o e).2) r1)]
    have z := sortable_pure (prog := X.prog) (w := X.w) (A := X.A.in1.in1) (s := { s with heap := h₁ }) (a := a1) rd1 h2 ok.pu ok.cm (fun d hd => by have := ok.dp d hd; show X.A.units + 1 + 1 + d.depth < cLine; omega) (fun o q => by
      have q' : h₁.get? a1 = some o := q
      rw [ha] at q'; cases q'; rfl)
    intro h' keep
    obtain ⟨κ, k1, k2⟩ := z h' keep
    refine ⟨κ, k1, fun p q mp mq => ?_⟩
    have g := k2 p q mp mq
    have ez : SrtO.lt2 (ltV h₁) p q = SrtO.lt2 (ltV s.heap) p q := by
      show lx (tkV h₁ p.1) (tkV h₁ q.1) = lx (tkV s.heap p.1) (tkV s.heap q.1)
      rw [e _ mp, e _ mq]
    rw [← ez]
    exact g
  · obtain ⟨ws, rws, vls⟩ := out_D (each_rv rk rv) rd eps ok hs hb.perm
    obtain ⟨ep, he'⟩ := PyProof.Rows.sortedAll_at s.heap its out.toArray
    have hl2 : ws.length ≤ sizeLine := by
      have := vals_map_get vls
      rw [← this, hb.perm.length_eq]; exact hlen
    exact ⟨.ref _, upd H (s.heap.objs.size + 1) (.lst ws), I.laid (t' := s.toks) (fun _ _ => PyProof.Rows.sortedAll_old) (Nat.le_succ _) ⟨hl2, out, ep, vls, he'⟩, rfl, q _ ws (I.hok.fresh (Nat.le_succ _)) rws⟩
end
end Nv

set_option Elab.async false
set_option linter.all false
set_option maxRecDepth 100000
set_option autoImplicit false
set_option maxHeartbeats 4000000
/-! NvItm: d.items(), sorted(d.items()) of a dict whose keys are texts; the values may be anything. -/
namespace Nv
open PySem PySem.Spec PyProof.Rows L2
section
variable {X : Cx}
def rItK : V → List V → Hp → VK → Prop := fun x xs H Q => ∃ (a : Addr) (kvs : List (Key × V)), x = .ref a ∧ xs = [] ∧ Rd H a (.dK kvs) ∧ ∀ p, H p = none → Q (.ref p) (upd H p (DX.itemsO p a))
theorem mt_itK : MtR X "dict.items" rItK := by
  intro pins s σ H x xs v us Q I rx rxs h
  obtain ⟨a, kvs, rfl, rfl, ha, q⟩ := h
  cases rx
  cases rxs
  obtain ⟨hz, hs0, vs, kv, hdo⟩ := dk_rd I.hok ha
  have hf : H s.heap.objs.size = none := I.hok.fresh (Nat.le_refl _)
  exact call_meetsIn PySem.F.slot_dict_items hdo.typeIs PySem.F.entry_dict_items (PySem.F.args_dict_items_1 _) (meets_dict_items (mixKind X.prog X.w) a hs0)
    ⟨⟨vs, hdo⟩, ⟨.ref s.heap.objs.size, upd H s.heap.objs.size (DX.itemsO s.heap.objs.size a), I.laid (t' := s.toks) (fun b u e => Heap.get?_push_of_some _ e) (Nat.le_refl _) (DX.itemsO_ok (Heap.get?_push_size _ rfl)), rfl, q _ hf⟩⟩
end
/-- o.items() -/
def tItm (to : TE) : TE := fun σ H Q => to σ H fun x H1 => rItK x [] H1 Q
theorem pe_items {X : Cx} {o : Expr} {to : TE} {apos cpos : Pos} (ho : PE X o to) (hbase : attributeBase o "items" X.env (eval o X.env) = eval o X.env) (hline : (apos.endLine == cpos.line) = true) : PE X (.Call (.Attribute o "items" apos) [] [] cpos) (tItm to) := by
  refine ⟨fun pins s σ H Q I h => ?_⟩
  refine wpAny_Call_method0_late hbase hline (thn (ho.run pins s σ H _ I h) fun v s1 ⟨x, H1, I1, r1, q1⟩ => ?_)
  obtain ⟨a, kvs, ex, exs, ha, q⟩ := id q1
  subst ex
  obtain rfl : v = Value.ref a := r1
  obtain ⟨hz, hs0, vs, kv, hdo⟩ := dk_rd I1.hok ha
  exact ⟨"dict", "dict.items", F.plainAttrs_dict, F.slot_dict_items, F.type_dict_items, hdo.typeIs, hdo.mapOf.noDict, Calls.callWith_builtin rfl (PySem.evalArgs_none (mt_itK pins s1 σ H1 (.ref a) [] (.ref a) [] Q I1 rfl .nil q1))⟩
/-! ### the order of pairs by their texts -/
/-- where a pair lies, its text -/
def prKey (L : List (Addr × Str)) : Value → Option (List (Int ⊕ List Nat))
  | .ref a => (L.find? fun z => z.1 == a).map fun z => PySem.W.keyToks (.str z.2)
  | _ => none
def prKind (L : List (Addr × Str)) : PyProof.Rows.KeyKind where
  toKeyOrd := listOrd itemOrd
  keyOf := prKey L
  dflt := ([] : List (Int ⊕ List Nat))
theorem find_nd {L : List (Addr × Str)} : (L.map (·.1)).Nodup → ∀ {z : Addr × Str}, z ∈ L → (L.find? fun y => y.1 == z.1) = some z := by
  induction L with
  | nil => intro _ z h; cases h
  | cons y L ih =>
    intro nd z h
    obtain ⟨n1, n2⟩ := List.nodup_cons.mp nd
    rw [List.find?_cons]
    rcases List.mem_cons.mp h with e | h
    · subst e
      simp
    · have hne : ¬ (y.1 == z.1) = true := fun q => n1 (by
        rw [beq_iff_eq] at q
        show y.1 ∈ _
        rw [q]
        exact List.mem_map.mpr ⟨z, h, rfl⟩)
      cases hb : (y.1 == z.1) with
      | true => exact absurd hb hne
      | false => exact ih n2 h
theorem inj_nd {α β : Type} {f : α → β} : ∀ {L : List α}, (L.map f).Nodup → ∀ {x y : α}, x ∈ L → y ∈ L → f x = f y → x = y
  | [], _, _, _, h, _, _ => by cases h
  | z :: L, nd, x, y, hx, hy, e => by
    obtain ⟨n1, n2⟩ := List.nodup_cons.mp nd
    rcases List.mem_cons.mp hx with hx | hx
    · rcases List.mem_cons.mp hy with hy | hy
      · rw [hx, hy]
      · exact absurd (List.mem_map.mpr ⟨y, hy, by rw [← e, hx]⟩) n1
    · rcases List.mem_cons.mp hy with hy | hy
      · exact absurd (List.mem_map.mpr ⟨x, hx, by rw [e, hy]⟩) n1
      · exact inj_nd n2 hx hy e
theorem prKey_mem {L : List (Addr × Str)} (nd : (L.map (·.1)).Nodup) {z : Addr × Str} (h : z ∈ L) : prKey L (.ref z.1) = some (PySem.W.keyToks (.str z.2)) := by
  unfold prKey
  simp only
  rw [find_nd nd h]
  rfl
theorem prKey_inv {L : List (Addr × Str)} {v : Value} {k : List (Int ⊕ List Nat)} (h : prKey L v = some k) : ∃ z ∈ L, v = .ref z.1 ∧ k = PySem.W.keyToks (.str z.2) := by
  unfold prKey at h
  split at h
  · rename_i a
    obtain ⟨z, h1, h2⟩ := Option.map_eq_some_iff.mp h
    have h3 := List.find?_some h1
    rw [beq_iff_eq] at h3
    exact ⟨z, List.mem_of_find?_eq_some h1, by rw [h3], h2.symm⟩
  · cases h
/-- the pairs lie in the heap -/
def PrAt (h : Heap) (L : List (Addr × Str)) : Prop := ∀ z ∈ L, ∃ (t : Tok) (x : Value), h.get? z.1 = some { cls := .type "tuple", data := .seq #[.str z.2 t, x] }
theorem pr_tups {h : Heap} : ∀ {L : List (Addr × Str)}, PrAt h L → ∃ fs, PySem.W.KatTups h (L.map fun z => Value.ref z.1) fs ∧ fs.length = L.length ∧ ∀ f ∈ fs, ∃ x t, f = Value.str x t
  | [], _ => ⟨[], PySem.W.KatTups.nil, rfl, fun f hf => by cases hf⟩
  | z :: L, hp => by
    obtain ⟨fs, h1, h2, h3⟩ := pr_tups (L := L) fun y hy => hp y (.tail _ hy)
    obtain ⟨t, x, e⟩ := hp z (.head _)
    refine ⟨.str z.2 t :: fs, PySem.W.KatTups.cons e rfl rfl rfl h1, by rw [List.length_cons, List.length_cons, h2], fun f hf => ?_⟩
    rcases List.mem_cons.mp hf with e | hf
    · exact ⟨_, _, e⟩
    · exact h3 f hf
section
variable {P : Program} {w : World} {A : Around} {s : Shared}
theorem sorts_pairs {L : List (Addr × Str)} (nd : (L.map (·.1)).Nodup) (nk : (L.map (·.2)).Nodup) (hp : PrAt s.heap L) (hu : A.units + 2 < cLine) : PySem.W.SortsAt P w A s (prKind L) (L.map fun z => Value.ref z.1) := by
  refine ⟨fun v hv => ?_, tuples' true, ?_, fun h2 E Q hq => ?_⟩
  · obtain ⟨z, hz, rfl⟩ := List.mem_map.mp hv
    exact ⟨_, prKey_mem nd hz⟩
  · intro E x y a b Q ha hb hq
    obtain ⟨z1, m1, rfl, rfl⟩ := prKey_inv ha
    obtain ⟨z2, m2, rfl, rfl⟩ := prKey_inv hb
    obtain ⟨t1, x1, e1⟩ := hp z1 m1
    obtain ⟨t2, x2, e2⟩ := hp z2 m2
    have hq' : Q (PySem.W.dataLt (.str z1.2) (.str z2.2)) s := hq
    rw [PySem.W.dataLt_str] at hq'
    refine PySem.W.kat_lt e1 rfl e2 rfl ?_
    show PySem.W.KatLex P w A true false Q [(Value.str z1.2 t1, Value.str z2.2 t2), (x1, x2)] 0 s
    by_cases hk : z1.2 = z2.2
    · have hz : z1 = z2 := by
        exact inj_nd nk m1 m2 hk
      subst hz
      rw [e1] at e2
      injection e2 with e2
      injection e2 with _ _ e2
      have hx : (#[Value.str z1.2 t1, x1] : Array Value) = #[Value.str z1.2 t2, x2] := by
        first | exact (by injection e2) | (cases e2; rfl)
      have hx2 : x1 = x2 := by
        have := congrArg (fun a : Array Value => a.toList) hx
        simp at this
        exact this.2
      subst hx2
      refine PySem.W.kat_cons (PySem.SeqAt.EqAt.str_str z1.2 t1 z1.2 t2 P w _ _ ?_)
      have hb : (z1.2 == z1.2) = true := by simp
      first | rw [hb] | skip
      refine PySem.W.kat_go (fun _ => ?_) (fun e0 => ?_)
      · refine PySem.W.kat_yes (PySem.W.kat_cons (PySem.SeqAt.EqAt.same _ P w _ _ ?_))
        refine PySem.W.kat_yes (PySem.W.kat_nil ?_)
        have hf : decide (z1.2.cps.toList < z1.2.cps.toList) = false := decide_eq_false (List.lt_irrefl _)
        rw [hf] at hq'
        exact hq'
      · exact absurd e0 (by simp)
    · refine PySem.W.kat_cons (PySem.SeqAt.EqAt.str_str z1.2 t1 z2.2 t2 P w _ _ ?_)
      refine PySem.W.kat_go (fun e0 => absurd ?_ hk) (fun _ => ?_)
      · simpa using e0
      · exact PySem.W.kat_no (oneLt_str hq')
  · obtain ⟨fs, h1, h3, h4⟩ := pr_tups hp
    rw [List.length_map] at h2
    refine PySem.W.kat_kind (T := .type "str") h1 (by omega) (fun f hf => ?_) (beq_self_eq_true _) hq
    obtain ⟨x, t, rfl⟩ := h4 f hf
    exact PySem.W.Looks.of_pure rfl
/-- the list's own object holds the pairs by their texts' order -/
theorem sort_pairs {a : Addr} {n : Nat} {L : List (Addr × Str)} {E : Value → Shared → Prop} {Q : Value → Shared → Prop} (ho : s.heap.get? a = some (seqObj "list" (L.map fun z => Value.ref z.1).toArray n)) (nd : (L.map (·.1)).Nodup) (nk : (L.map (·.2)).Nodup) (hp : PrAt s.heap L) (hl : L.length ≤ sizeLine) (hu : A.units + 3 < cLine)
    (h : Q .none { s with heap := sortedHeap s.heap a (L.map fun z => Value.ref z.1) ((L.mergeSort fun x y => leS x.2 y.2).map fun z => Value.ref z.1).toArray }) : wpAny (model P w) A (call (.builtin "list.sort") [.ref a]) Q E s := by
  have hp2 : PrAt (PySem.W.sortingHeap s.heap a (L.map fun z => Value.ref z.1)) L := fun z hz => by
    obtain ⟨t, x, e⟩ := hp z hz
    refine ⟨t, x, PySem.W.sortingHeap_old (fun e2 => ?_) e⟩
    rw [e2, ho] at e
    injection e with e
    have q : Value.type "list" = Value.type "tuple" := congrArg Obj.cls e
    exact absurd q (by decide)
  refine wpAny_call_entry slot_list_sort ⟨_, ho, rfl⟩ entry_list_sort (PySem.W.list_sort_vals (κ := prKind L) ho (sorts_pairs (s := { s with heap := PySem.W.sortingHeap s.heap a (L.map fun z => Value.ref z.1) }) nd nk hp2 (by show A.units + 1 + 2 < cLine; omega)) (by rw [List.length_map]; exact hl) ⟨.none, rfl, ?_⟩) (args_list_sort _)
  have hR : PySem.W.EachIs (fun v (z : Addr × Str) => v = Value.ref z.1) (L.map fun z => Value.ref z.1) L := by
    have : ∀ L : List (Addr × Str), PySem.W.EachIs (fun v (z : Addr × Str) => v = Value.ref z.1) (L.map fun z => Value.ref z.1) L := by
      intro L
      induction L with
      | nil => exact .nil
      | cons z L ih => exact .cons rfl ih
    exact this L
  have hK : PySem.W.EachIs (fun v (z : Addr × Str) => (prKind L).keyOf v = some (PySem.W.keyToks (.str z.2))) (L.map fun z => Value.ref z.1) L := (PySem.W.each_mem hR).mono fun v z ⟨e, hz⟩ => by
    rw [e]
    exact prKey_mem nd hz
  have q := PySem.W.sortVals_each (κ := prKind L) (rev := false) (fun z : Addr × Str => PySem.W.keyToks (.str z.2)) hR hK
  have hle : PySem.W.sortLe (prKind L).toKeyOrd false (fun z : Addr × Str => PySem.W.keyToks (.str z.2)) = fun x y => leS x.2 y.2 := by
    exact PySem.W.dataLe_str fun z : Addr × Str => z.2
  rw [hle] at q
  have hv : ∀ {vs : List Value} {M : List (Addr × Str)}, PySem.W.EachIs (fun v (z : Addr × Str) => v = Value.ref z.1) vs M → vs = M.map fun z => Value.ref z.1 := by
    intro vs M g
    induction g with
    | nil => rfl
    | cons e _ ih => rw [List.map_cons, e, ih]
  rw [hv q]
  exact h
end
/-! ### the call -/
section
variable {X : Cx}
abbrev txK (e : Str × V) : Key × V := (Sum.inr e.1, e.2)
/-- fresh tuples of the heap are tracked -/
theorem take_tups {pins : List (Addr × Obj)} {σ : L2.St} {H0 : Hp} {s : Shared} {h' : Heap} {tk : Nat} (I0 : Inv X pins σ H0 s) : ∀ (as : List Addr) (kvs : List (Key × V)) (H1 : Hp), Inv X pins σ H1 { s with heap := h', toks := tk } → as.Nodup → (∀ a ∈ as, s.heap.objs.size ≤ a ∧ H1 a = none) →
    (∀ (j : Nat) (a : Addr), as[j]? = some a → ∃ e, kvs[j]? = some e ∧ ∀ H2, ObjOk X.prog X.w H2 h' a (.tup [kV e.1, e.2])) → Inv X pins σ (LiI.putT H1 as kvs) { s with heap := h', toks := tk }
  | [], _, H1, I1, _, _, _ => by unfold LiI.putT; exact I1
  | a :: as, kvs, H1, I1, nd, hf, ho => by
    obtain ⟨e, e1, ok⟩ := ho 0 a rfl
    obtain ⟨n1, n2⟩ := List.nodup_cons.mp nd
    cases kvs with
    | nil => cases e1
    | cons e' kvs =>
      obtain rfl : e' = e := Option.some.inj e1
      obtain ⟨hb, hn⟩ := hf a (.head _)
      have I2 : Inv X pins σ (upd H1 a (.tup [kV e'.1, e'.2])) { s with heap := h', toks := tk } := I1.take (h' := h') (t' := tk) (fun b ob _ e => e) (I0.fpOk hb hn) (ok _)
      show Inv X pins σ (LiI.putT (upd H1 a (.tup [kV e'.1, e'.2])) as kvs) _
      refine take_tups I0 as kvs _ I2 n2 (fun c hc => ?_) fun j c hj => ho (j + 1) c hj
      obtain ⟨c1, c2⟩ := hf c (.tail _ hc)
      exact ⟨c1, by rw [upd_ne (fun z => n1 (by rw [← z]; exact hc))]; exact c2⟩
def rSortIt : List V → Hp → VK → Prop := fun xs H Q => ∃ (p d : Addr) (kvs : List (Str × V)), xs = [.ref p] ∧ H p = some (DX.itemsO p d) ∧ Rd H d (.dK (kvs.map txK)) ∧
  ((kvs.map (·.1)).Nodup → ∀ (as : List Addr) (l : Addr), as.length = kvs.length → as.Nodup → (∀ a ∈ as, H a = none) → H l = none → l ∉ as →
    Q (.ref l) (upd (LiI.putT H as (kvs.map txK)) l (.lst (((as.zip (kvs.map (·.1))).mergeSort fun x y => leS x.2 y.2).map fun z => V.ref z.1))))
theorem zipF {α β : Type} : ∀ (as : List α) (bs : List β), as.length = bs.length → (as.zip bs).map (·.1) = as
  | [], _, _ => rfl
  | a :: as, [], h => by cases h
  | a :: as, b :: bs, h => by
    rw [List.zip_cons_cons, List.map_cons, zipF as bs (Nat.succ.inj h)]
theorem zipS {α β : Type} : ∀ (as : List α) (bs : List β), as.length = bs.length → (as.zip bs).map (·.2) = bs
  | [], [], _ => rfl
  | [], b :: bs, h => by cases h
  | a :: as, [], h => by cases h
  | a :: as, b :: bs, h => by
    rw [List.zip_cons_cons, List.map_cons, zipS as bs (Nat.succ.inj h)]
theorem cr_sortIt (hc : X.calm = true) (hu : X.A.units + 64 < cLine) : CallR X (.builtin "sorted") rSortIt := by
  intro pins s σ H xs us Q I r h
  obtain ⟨p, d, kvs, rfl, hp, hd, q⟩ := h
  obtain rfl := Vals.ref1 r
  have view : s.heap.IsItemsView p d := (show ObjOk X.prog X.w H s.heap p (DX.itemsO p d) from I.hok p _ hp).1
  obtain ⟨hz, hs0, vs, kv, hdo⟩ := dk_rd I.hok hd
  obtain ⟨ep, hat⟩ := hdo.dictAt
  have lk : kvs.length = vs.length := by have := Paired.length kv; rwa [List.length_map] at this
  have hkeys : vs.map (·.1) = kvs.map fun e => (Sum.inr e.1 : Key) := by
    have g : ∀ {xs : List (Key × V)} {ys : List (Key × Value)}, KV xs ys → ys.map (·.1) = xs.map (·.1) := by
      intro xs ys k
      induction k with
      | nil => rfl
      | cons h _ ih => rw [List.map_cons, List.map_cons, ih, h.1]
    rw [g kv, List.map_map]
    rfl
  have nk : (kvs.map (·.1)).Nodup := by
    obtain ⟨_, _, _, _, _, _, _, _, n⟩ := id hdo
    rw [hkeys] at n
    have e : (kvs.map fun e => (Sum.inr e.1 : Key)) = (kvs.map (·.1)).map (fun x => (Sum.inr x : Key)) := by rw [List.map_map]; rfl
    rw [e] at n
    exact (List.nodup_iff_pairwise_ne.mpr ((List.pairwise_map.mp (List.nodup_iff_pairwise_ne.mp n)).imp fun {a b} hne e => hne (by rw [e])))
  have hz2 : vs.length ≤ sizeLine := by rw [← lk]; rwa [List.length_map] at hz
  refine Calls.call_function_entry PyProof.Rows.kind_sorted PyProof.Rows.plain_sorted PyProof.Rows.entry_sorted (PyProof.Rows.args_sorted1 _) ?_
  unfold Builtin.«sorted»
  refine wpAny_bind (m := checkCount "sorted" 1 1 _) (wpAny_pure ?_)
  refine wpAny_bind (PySem.W.kdx_collect (A := X.A.in1) (knd := mixKind X.prog X.w) (kvs := vs) (ep := ep) (I.ok.hd hc) view hat hz2 fun h' tk as hk hl hG => ?_)
  have lak : as.length = kvs.length := by omega
  have nd : as.Nodup := List.Pairwise.imp (fun {a b} (h : a < b) => Nat.ne_of_lt h) hG.rise
  have pr : ∀ (j : Nat) (b : Addr), as[j]? = some b → ∃ (e : Str × V) (t : Tok) (x : Value), kvs[j]? = some e ∧ RelV e.2 x ∧ h'.get? b = some { cls := .type "tuple", data := .seq #[.str e.1 t, x] } := by
    intro j b hj
    obtain ⟨key, k, x, f1, f2, f3⟩ := hG.pairs j b hj
    have hjl : j < kvs.length := by
      have := (List.getElem?_eq_some_iff.mp hj).1
      omega
    have e2 : (kvs.map txK)[j]? = some (txK kvs[j]) := by rw [List.getElem?_map, List.getElem?_eq_getElem hjl]; rfl
    obtain ⟨qv, g1, g2, g3⟩ := LiI.paired_get kv e2
    rw [f1] at g1
    cases g1
    have rk : RelV (kV (txK kvs[j]).1) key := by
      rw [g2]
      exact relV_key (show keyIs k key = true from f2)
    obtain ⟨t, rfl⟩ : ∃ t, key = .str kvs[j].1 t := rk
    exact ⟨kvs[j], t, x, List.getElem?_eq_getElem hjl, g3, f3⟩
  have I1 : Inv X pins σ H { s with heap := h', toks := tk } := I.kept hk
  have newS : H h'.objs.size = none := I1.hok.fresh (Nat.le_refl _)
  have newA : ∀ a ∈ as, s.heap.objs.size ≤ a ∧ H a = none := fun a ha => ⟨Nat.le_of_lt (hG.above a ha), I.hok.fresh (Nat.le_of_lt (hG.above a ha))⟩
  have lowA : ∀ a ∈ as, a < h'.objs.size := fun a ha => by
    obtain ⟨j, hj⟩ := List.mem_iff_getElem?.mp ha
    obtain ⟨_, _, _, _, _, e⟩ := pr j a hj
    exact Heap.lt_size e
  have hlA : h'.objs.size ∉ as := fun z => Nat.lt_irrefl _ (lowA _ z)
  have I2 : Inv X pins σ (LiI.putT H as (kvs.map txK)) { s with heap := h', toks := tk } := take_tups I as (kvs.map txK) H I1 nd newA fun j a hj => by
    obtain ⟨e, t, x, e1, e2, e3⟩ := pr j a hj
    refine ⟨txK e, by rw [List.getElem?_map, e1]; rfl, fun H2 => ?_⟩
    exact ⟨by show 2 ≤ sizeLine; decide, [.str e.1 t, x], .cons ⟨t, rfl⟩ (.cons e2 .nil), ⟨_, e3, rfl, _, rfl⟩⟩
  refine wpAny_bind (wpAny_newList ?_ (by rw [List.length_map, hl]; exact hz2))
  have hoL : (h'.push (seqObj "list" (as.map Value.ref).toArray 0)).get? h'.objs.size = some (seqObj "list" (as.map Value.ref).toArray 0) := Heap.get?_push_size _ rfl
  show wpAny _ _ _ _ _ { s with heap := h'.push (seqObj "list" (as.map Value.ref).toArray 0), toks := tk }
  have hlz : as.length = (kvs.map (·.1)).length := by rw [List.length_map]; exact lak
  have hL1 : ((as.zip (kvs.map (·.1))).map (·.1)) = as := zipF _ _ hlz
  have hL2 : ((as.zip (kvs.map (·.1))).map (·.2)) = kvs.map (·.1) := zipS _ _ hlz
  have hLr : (as.zip (kvs.map (·.1))).map (fun z => Value.ref z.1) = as.map Value.ref := by
    rw [← hL1, List.map_map]
    rw [hL1]
    rfl
  have hPr : PrAt (h'.push (seqObj "list" (as.map Value.ref).toArray 0)) (as.zip (kvs.map (·.1))) := fun z hz => by
    obtain ⟨j, hj⟩ := List.mem_iff_getElem?.mp hz
    rw [List.getElem?_zip_eq_some] at hj
    obtain ⟨j1, j2⟩ := hj
    obtain ⟨e, t, x, e1, e2, e3⟩ := pr j z.1 j1
    rw [List.getElem?_map, e1] at j2
    have j3 : e.1 = z.2 := Option.some.inj j2
    exact ⟨t, x, by rw [← j3]; exact Heap.get?_push_of_some _ e3⟩
  have hlen : (as.zip (kvs.map (·.1))).length = kvs.length := by rw [List.length_zip]; omega
  rw [← hLr] at hoL
  have hoL2 := hoL
  rw [hLr] at hoL2
  rw [← hLr]
  rw [← hLr] at hPr
  refine wpAny_bind (wpAny_holding (sort_pairs (s := { s with heap := h'.push (seqObj "list" ((as.zip (kvs.map (·.1))).map fun z => Value.ref z.1).toArray 0), toks := tk }) hoL (by rw [hL1]; exact nd) (by rw [hL2]; exact nk) hPr (by rw [hlen, lk]; exact hz2) (by show X.A.units + 1 + 3 < cLine; omega) ?_))
  obtain ⟨e', he'⟩ := PyProof.Rows.sortedHeap_at (vs := (as.zip (kvs.map (·.1))).map fun z => Value.ref z.1) (out := (((as.zip (kvs.map (·.1))).mergeSort fun x y => leS x.2 y.2).map fun z => Value.ref z.1).toArray) hoL
  have hz3 : (((as.zip (kvs.map (·.1))).mergeSort fun x y => leS x.2 y.2).map fun z => V.ref z.1).length ≤ sizeLine := by
    rw [List.length_map, (List.mergeSort_perm _ _).length_eq, hlen, lk]; exact hz2
  have offS : LiI.putT H as (kvs.map txK) h'.objs.size = none := by rw [LiI.putT_off as _ _ hlA]; exact newS
  have hvals : ∀ M : List (Addr × Str), Vals (M.map fun z => V.ref z.1) (M.map fun z => Value.ref z.1) := by
    intro M
    induction M with
    | nil => exact .nil
    | cons z M ih => exact .cons rfl ih
  refine wpAny_pure ⟨_, rfl, .ref h'.objs.size, upd (LiI.putT H as (kvs.map txK)) h'.objs.size (.lst (((as.zip (kvs.map (·.1))).mergeSort fun x y => leS x.2 y.2).map fun z => V.ref z.1)), I2.laid (t' := tk) (fun b u e => ?_) (Nat.le_refl _)
    (show ObjOk X.prog X.w _ _ _ (.lst _) from ⟨hz3, _, e', hvals _, he'⟩), rfl, q nk as h'.objs.size lak nd (fun a ha => (newA a ha).2) newS hlA⟩
  have hb : b < h'.objs.size := Heap.lt_size e
  rw [PyProof.Rows.sortedHeap_old (Nat.ne_of_lt hb) (by rw [size_push']; exact Nat.lt_succ_of_lt hb)]
  exact Heap.get?_push_of_some _ e
end
end Nv

set_option Elab.async false
set_option linter.all false
set_option maxRecDepth 100000
set_option autoImplicit false
set_option maxHeartbeats 4000000
/-! NvItN: d.items(), sorted(d.items()), whatever the keys are. -/
namespace Nv
open PySem PySem.Spec PyProof.Rows L2
section
variable {X : Cx}
def rItN (X : Cx) : V → List V → Hp → VK → Prop := fun x xs H Q => ∃ (a : Addr) (kv wv : List V), x = .ref a ∧ xs = [] ∧ RawD X H a kv wv ∧ ∀ p, H p = none → Q (.ref p) (upd H p (DX.itemsO p a))
theorem mt_itN : MtR X "dict.items" (rItN X) := by
  intro pins s σ H x xs v us Q I rx rxs h
  obtain ⟨a, kv, wv, rfl, rfl, ha, q⟩ := h
  cases rx
  cases rxs
  obtain ⟨es, ep, hraw, hs0, _⟩ := ha _ _ _ I
  have hf : H s.heap.objs.size = none := I.hok.fresh (Nat.le_refl _)
  exact call_meetsIn PySem.F.slot_dict_items hraw.typeIs PySem.F.entry_dict_items (PySem.F.args_dict_items_1 _) (meets_dict_items_raw a hs0)
    ⟨⟨es, ep, hraw⟩, ⟨.ref s.heap.objs.size, upd H s.heap.objs.size (DX.itemsO s.heap.objs.size a), I.laid (t' := s.toks) (fun b u e => Heap.get?_push_of_some _ e) (Nat.le_refl _) (DX.itemsO_ok (Heap.get?_push_size _ rfl)), rfl, q _ hf⟩⟩
end
def tItmN (X : Cx) (to : TE) : TE := fun σ H Q => to σ H fun x H1 => rItN X x [] H1 Q
theorem pe_itemsN {X : Cx} {o : Expr} {to : TE} {apos cpos : Pos} (ho : PE X o to) (hbase : attributeBase o "items" X.env (eval o X.env) = eval o X.env) (hline : (apos.endLine == cpos.line) = true) : PE X (.Call (.Attribute o "items" apos) [] [] cpos) (tItmN X to) := by
  refine ⟨fun pins s σ H Q I h => ?_⟩
  refine wpAny_Call_method0_late hbase hline (thn (ho.run pins s σ H _ I h) fun v s1 ⟨x, H1, I1, r1, q1⟩ => ?_)
  obtain ⟨a, kv, wv, ex, exs, ha, q⟩ := id q1
  subst ex
  obtain rfl : v = Value.ref a := r1
  obtain ⟨es, ep, hraw, hs0, _⟩ := ha _ _ _ I1
  obtain ⟨oo, h1, h2, h3⟩ := id hraw
  exact ⟨"dict", "dict.items", F.plainAttrs_dict, F.slot_dict_items, F.type_dict_items, hraw.typeIs, fun b e => (by cases e; exact ⟨oo, h1, h2.2.1⟩), Calls.callWith_builtin rfl (PySem.evalArgs_none (mt_itN pins s1 σ H1 (.ref a) [] (.ref a) [] Q I1 rfl .nil q1))⟩
/-! fresh pairs -/
def putP : Hp → List Addr → List (V × V) → Hp
  | H, a :: as, p :: ps => putP (upd H a (.tup [p.1, p.2])) as ps
  | H, _, _ => H
theorem putP_off {b : Addr} : ∀ (as : List Addr) (ps : List (V × V)) (H : Hp), b ∉ as → putP H as ps b = H b
  | [], _, _, _ => rfl
  | _ :: _, [], _, _ => rfl
  | a :: as, p :: ps, H, h => by
    show putP (upd H a (.tup [p.1, p.2])) as ps b = H b
    rw [putP_off as ps _ (fun z => h (.tail _ z)), upd_ne (fun z => h (by rw [z]; exact .head _))]
theorem putP_at : ∀ (as : List Addr) (ps : List (V × V)) (H : Hp) (j : Nat) (a : Addr) (p : V × V), as.Nodup → as[j]? = some a → ps[j]? = some p → putP H as ps a = some (.tup [p.1, p.2])
  | [], _, _, _, _, _, _, h, _ => by simp at h
  | _ :: _, [], _, _, _, _, _, _, h => by simp at h
  | a0 :: as, p0 :: ps, H, 0, a, p, nd, h1, h2 => by
    simp only [List.getElem?_cons_zero, Option.some.injEq] at h1 h2
    subst h1 h2
    show putP (upd H a0 (.tup [p0.1, p0.2])) as ps a0 = _
    rw [putP_off as ps _ (List.nodup_cons.mp nd).1, upd_same]
  | a0 :: as, p0 :: ps, H, j + 1, a, p, nd, h1, h2 => by
    simp only [List.getElem?_cons_succ] at h1 h2
    exact putP_at as ps _ j a p (List.nodup_cons.mp nd).2 h1 h2
section
variable {K : Kw} {ρ : List Addr}
theorem ext_putP {s : Sto} : ∀ (as : List Addr) (ps : List (V × V)) (H : Hp), as.Nodup → (∀ a ∈ as, H a = none) → RS K ρ H s → Ext K ρ H ρ (putP H as ps) ∧ RS K ρ (putP H as ps) s
  | [], _, H, _, _, rs => ⟨.refl, rs⟩
  | _ :: _, [], H, _, _, rs => ⟨.refl, rs⟩
  | a :: as, p :: ps, H, nd, hf, rs => by
    obtain ⟨n1, n2⟩ := List.nodup_cons.mp nd
    have hn := hf a (.head _)
    obtain ⟨e, r⟩ := ext_putP as ps (upd H a (.tup [p.1, p.2])) n2 (fun c hc => by rw [upd_ne (fun z => n1 (by rw [← z]; exact hc))]; exact hf c (.tail _ hc)) (rs.laid hn)
    exact ⟨(Ext.laid hn).trans e, r⟩
theorem ext_putP0 : ∀ (as : List Addr) (ps : List (V × V)) (H : Hp), as.Nodup → (∀ a ∈ as, H a = none) → Ext K ρ H ρ (putP H as ps)
  | [], _, H, _, _ => .refl
  | _ :: _, [], H, _, _ => .refl
  | a :: as, p :: ps, H, nd, hf => by
    obtain ⟨n1, n2⟩ := List.nodup_cons.mp nd
    have hn := hf a (.head _)
    exact (Ext.laid hn).trans (ext_putP0 as ps (upd H a (.tup [p.1, p.2])) n2 (fun c hc => by rw [upd_ne (fun z => n1 (by rw [← z]; exact hc))]; exact hf c (.tail _ hc)))
/-- the pairs as data -/
theorem rvs_pairs {H H' : Hp} : ∀ {kvs : List (D × D)} {kv wv : List V} {as : List Addr}, RVs K ρ H (kvs.map (·.1)) kv → RVs K ρ H (kvs.map (·.2)) wv → Ext K ρ H ρ H' → as.length = kvs.length → (∀ (j : Nat) (a : Addr) (p : V × V), as[j]? = some a → (kv.zip wv)[j]? = some p → H' a = some (.tup [p.1, p.2])) →
    RVs K ρ H' (kvs.map fun e => D.tup [e.1, e.2]) (as.map V.ref)
  | [], kv, wv, as, _, _, _, hl, _ => by
    cases as with
    | nil => exact .nil_
    | cons _ _ => cases hl
  | e :: kvs, kv, wv, as, h1, h2, ex, hl, hat => by
    rw [List.map_cons] at h1 h2
    unfold RVs at h1 h2
    obtain ⟨k, kr, rfl, k1, k2⟩ := h1
    obtain ⟨w, wr, rfl, w1, w2⟩ := h2
    cases as with
    | nil => cases hl
    | cons a as =>
      refine .cons_ (rv_tup.mpr ⟨a, [k, w], rfl, SqT.of (hat 0 a (k, w) rfl rfl), .cons_ (RV.mono ex _ _ k1) (.cons_ (RV.mono ex _ _ w1) .nil_)⟩) ?_
      exact rvs_pairs k2 w2 ex (Nat.succ.inj hl) fun j b p hj hp => hat (j + 1) b p hj hp
end
section
variable {X : Cx}
theorem take_tupsP {pins : List (Addr × Obj)} {σ : L2.St} {H0 : Hp} {s : Shared} {h' : Heap} {tk : Nat} (I0 : Inv X pins σ H0 s) : ∀ (as : List Addr) (ps : List (V × V)) (H1 : Hp), Inv X pins σ H1 { s with heap := h', toks := tk } → as.Nodup → (∀ a ∈ as, s.heap.objs.size ≤ a ∧ H1 a = none) →
    (∀ (j : Nat) (a : Addr), as[j]? = some a → ∃ e, ps[j]? = some e ∧ ∀ H2, ObjOk X.prog X.w H2 h' a (.tup [e.1, e.2])) → Inv X pins σ (putP H1 as ps) { s with heap := h', toks := tk }
  | [], _, H1, I1, _, _, _ => by unfold putP; exact I1
  | a :: as, ps, H1, I1, nd, hf, ho => by
    obtain ⟨e, e1, ok⟩ := ho 0 a rfl
    obtain ⟨n1, n2⟩ := List.nodup_cons.mp nd
    cases ps with
    | nil => cases e1
    | cons e' ps =>
      obtain rfl : e' = e := Option.some.inj e1
      obtain ⟨hb, hn⟩ := hf a (.head _)
      have I2 : Inv X pins σ (upd H1 a (.tup [e'.1, e'.2])) { s with heap := h', toks := tk } := I1.take (h' := h') (t' := tk) (fun b ob _ e => e) (I0.fpOk hb hn) (ok _)
      show Inv X pins σ (putP (upd H1 a (.tup [e'.1, e'.2])) as ps) _
      refine take_tupsP I0 as ps _ I2 n2 (fun c hc => ?_) fun j c hj => ho (j + 1) c hj
      obtain ⟨c1, c2⟩ := hf c (.tail _ hc)
      exact ⟨c1, by rw [upd_ne (fun z => n1 (by rw [← z]; exact hc))]; exact c2⟩
def rSortItN (X : Cx) : List V → Hp → VK → Prop := fun xs H Q => ∃ (p d : Addr) (ρ : List Addr) (kvs : List (D × D)) (kv wv : List V) (ps : List PyData), xs = [.ref p] ∧ H p = some (DX.itemsO p d) ∧ RawD X H d kv wv ∧ RVs X.kw ρ H (kvs.map (·.1)) kv ∧ RVs X.kw ρ H (kvs.map (·.2)) wv ∧
  pyWs (fun _ => none) (kvs.map fun e => D.tup [e.1, e.2]) = some ps ∧ SrtOk ps ∧
  ∀ (as : List Addr) (l : Addr) (ws : List V), as.Nodup → (∀ a ∈ as, H a = none) → H l = none → l ∉ as → RVs X.kw ρ (putP H as (kv.zip wv)) ((kvs.map fun e => D.tup [e.1, e.2]).mergeSort leD) ws →
    Q (.ref l) (upd (putP H as (kv.zip wv)) l (.lst ws))
theorem cr_sortItN (hc : X.calm = true) (hu : X.A.units + 64 < cLine) : CallR X (.builtin "sorted") (rSortItN X) := by
  intro pins s σ H xs us Q I r h
  obtain ⟨p, d, ρ, kvs, kv, wv, ps, rfl, hp, raw, rk, rw', eps, ok, q⟩ := h
  obtain rfl := Vals.ref1 r
  have view : s.heap.IsItemsView p d := (show ObjOk X.prog X.w H s.heap p (DX.itemsO p d) from I.hok p _ hp).1
  obtain ⟨es, ep, hraw, lo, h16, vk, vw⟩ := raw _ _ _ I
  refine Calls.call_function_entry PyProof.Rows.kind_sorted PyProof.Rows.plain_sorted PyProof.Rows.entry_sorted (PyProof.Rows.args_sorted1 _) ?_
  unfold Builtin.«sorted»
  refine wpAny_bind (m := checkCount "sorted" 1 1 _) (wpAny_pure ?_)
  refine wpAny_bind (PySem.W.dil_collect (A := X.A.in1) (I.ok.hd hc) view hraw h16 fun h' tk as hk hl hG => ?_)
  have lk : kv.length = es.size := by have := vals_map_get vk; rw [List.length_map, Array.length_toList] at this; exact this.symm
  have lw : wv.length = es.size := by have := vals_map_get vw; rw [List.length_map, Array.length_toList] at this; exact this.symm
  have nd : as.Nodup := List.Pairwise.imp (fun {a b} (h : a < b) => Nat.ne_of_lt h) hG.rise
  have I1 : Inv X pins σ H { s with heap := h', toks := tk } := I.kept hk
  have newS : H h'.objs.size = none := I1.hok.fresh (Nat.le_refl _)
  have newA : ∀ a ∈ as, s.heap.objs.size ≤ a ∧ H a = none := fun a ha => ⟨Nat.le_of_lt (hG.above a ha), I.hok.fresh (Nat.le_of_lt (hG.above a ha))⟩
  have hlA : h'.objs.size ∉ as := fun z => Nat.lt_irrefl _ (hG.there z)
  have vget : ∀ {ks : List V} {us : List Value}, Vals ks us → ∀ (j : Nat) (u : Value), us[j]? = some u → ∃ k, ks[j]? = some k ∧ RelV k u := by
    intro ks us v
    induction v with
    | nil => intro j u h; simp at h
    | cons a _ ih =>
      intro j u h
      cases j with
      | zero => simp only [List.getElem?_cons_zero, Option.some.injEq] at h; subst h; exact ⟨_, rfl, a⟩
      | succ j => simp only [List.getElem?_cons_succ] at h ⊢; exact ih j u h
  have I2 : Inv X pins σ (putP H as (kv.zip wv)) { s with heap := h', toks := tk } := take_tupsP I as (kv.zip wv) H I1 nd newA fun j a hj => by
    obtain ⟨hjs, e⟩ := hG.pairs j a hj
    obtain ⟨k, k1, k2⟩ := vget vk j es[j].key (by rw [List.getElem?_map, Array.getElem?_toList, Array.getElem?_eq_getElem hjs]; rfl)
    obtain ⟨w, w1, w2⟩ := vget vw j es[j].val (by rw [List.getElem?_map, Array.getElem?_toList, Array.getElem?_eq_getElem hjs]; rfl)
    exact ⟨(k, w), List.getElem?_zip_eq_some.mpr ⟨k1, w1⟩, fun H2 => ⟨by show 2 ≤ sizeLine; decide, [es[j].key, es[j].val], .cons k2 (.cons w2 .nil), ⟨_, e, rfl, _, rfl⟩⟩⟩
  have hlen : (as.map Value.ref).length ≤ sizeLine := by rw [List.length_map, hl]; exact h16
  have ext : Ext X.kw ρ H ρ (putP H as (kv.zip wv)) := ext_putP0 as _ H nd fun a ha => (newA a ha).2
  have hlk : as.length = kvs.length := by have := rk.length; rw [List.length_map] at this; omega
  have rp := rvs_pairs rk rw' ext hlk fun j a p hj hp => putP_at as _ H j a p nd hj hp
  have vp : Vals (as.map V.ref) (as.map Value.ref) := LiI.vals_refs as
  refine wpAny_bind (wpAny_newList ?_ hlen)
  have hoL : (h'.push (seqObj "list" (as.map Value.ref).toArray 0)).get? h'.objs.size = some (seqObj "list" (as.map Value.ref).toArray 0) := Heap.get?_push_size _ rfl
  show wpAny _ _ _ _ _ { s with heap := h'.push (seqObj "list" (as.map Value.ref).toArray 0), toks := tk }
  have rd0 : RdE h' (as.map Value.ref) ps := rd_each I2 rp vp eps
  have rd : RdE (h'.push (seqObj "list" (as.map Value.ref).toArray 0)) (as.map Value.ref) ps := keep_rd (fun b o e => Heap.get?_push_of_some _ e) ok.pu rd0
  refine wpAny_bind (wpAny_holding (sort_pure (s := { s with heap := h'.push (seqObj "list" (as.map Value.ref).toArray 0), toks := tk }) hoL rd hlen ok.pu ok.cm (fun d hd => ?_) fun out hs hp2 => ?_))
  · have := ok.dp d hd
    show X.A.units + 1 + 1 + d.depth < cLine
    omega
  obtain ⟨ws, rws, vls⟩ := out_D (each_rv rp vp) rd eps ok hs hp2
  obtain ⟨e', he'⟩ := PyProof.Rows.sortedHeap_at (vs := as.map Value.ref) (out := out.toArray) hoL
  have hl2 : ws.length ≤ sizeLine := by
    have := vals_map_get vls
    rw [← this, hp2.length_eq]; exact hlen
  have offS : putP H as (kv.zip wv) h'.objs.size = none := by rw [putP_off as _ _ hlA]; exact newS
  refine wpAny_pure ⟨_, rfl, .ref h'.objs.size, upd (putP H as (kv.zip wv)) h'.objs.size (.lst ws), I2.laid (t' := tk) (fun b u e => ?_) (Nat.le_refl _)
    (show ObjOk X.prog X.w _ _ _ (.lst ws) from ⟨hl2, out, e', vls, he'⟩), rfl, q as _ ws nd (fun a ha => (newA a ha).2) newS hlA rws⟩
  have hb : b < h'.objs.size := Heap.lt_size e
  rw [PyProof.Rows.sortedHeap_old (Nat.ne_of_lt hb) (by rw [size_push']; exact Nat.lt_succ_of_lt hb)]
  exact Heap.get?_push_of_some _ e
theorem cr_or {f : Value} {r1 r2 : List V → Hp → VK → Prop} (h1 : CallR X f r1) (h2 : CallR X f r2) : CallR X f fun xs H Q => r1 xs H Q ∨ r2 xs H Q := fun pins s σ H xs us Q I r h => h.elim (h1 pins s σ H xs us Q I r) (h2 pins s σ H xs us Q I r)
end
end Nv

set_option Elab.async false
set_option linter.all false
set_option maxRecDepth 100000
set_option autoImplicit false
/-! NvBi: built-ins, methods, subscripts keep what the interpreter says of them. -/
namespace Nv
open PySem PySem.Spec PyProof.Rows L2

/-- a built-in of one argument as a rule -/
def rC1 (K : Kw) (W : Wx) (op : Sto → RD → Option RD) : List V → Hp → VK → Prop := fun xs H Q => ∃ x H0 ρ s a, xs = [x] ∧ RS K ρ H s ∧ RR K H0 ρ H a x ∧ Post K W (rRR K) ρ H Q (ofO (op s a) s)
def rC2 (K : Kw) (W : Wx) (op : Sto → RD → RD → Option RD) : List V → Hp → VK → Prop := fun xs H Q => ∃ x y H0 H0' ρ s a b, xs = [x, y] ∧ RS K ρ H s ∧ RR K H0 ρ H a x ∧ RR K H0' ρ H b y ∧ Post K W (rRR K) ρ H Q (ofO (op s a b) s)
/-- a method as a rule: the receiver is in the store or a value -/
def rM (K : Kw) (W : Wx) (op : D → Sto → Res RD) : V → List V → Hp → VK → Prop := fun x xs H Q => ∃ ρ s d, xs = [] ∧ RS K ρ H s ∧ RV K ρ H d x ∧ Post K W (rRR K) ρ H Q (op d s)
def rM1 (K : Kw) (W : Wx) (op : D → RD → Sto → Res RD) : V → List V → Hp → VK → Prop := fun x xs H Q => ∃ y H0 ρ s d a, xs = [y] ∧ RS K ρ H s ∧ RV K ρ H d x ∧ RR K H0 ρ H a y ∧ Post K W (rRR K) ρ H Q (op d a s)
def B1.val : B1 → Value
  | .len => .builtin "len" | .tuple => .type "tuple" | .list => .type "list" | .all => .builtin "all" | .any => .builtin "any" | .sum => .builtin "sum" | .int => .type "int" | .abs => .builtin "abs" | .sorted => .builtin "sorted" | .dict => .type "dict"
def B2.val : B2 → Value
  | .max => .builtin "max" | .min => .builtin "min"
section
variable {K : Kw} {ρ : List Addr} {H H0 : Hp} {s : Sto}
theorem blsOf_ok : ∀ {ds : List D} {vs : List V} {bs : List Bool}, RVs K ρ H ds vs → blsOf ds = some bs → vs = bs.map V.bl
  | [], vs, bs, h, e => by unfold RVs at h; unfold blsOf at e; subst h; cases e; rfl
  | d :: ds, vs, bs, h, e => by
    unfold RVs at h
    obtain ⟨v, r, rfl, h2, h3⟩ := h
    cases d with
    | bl b =>
      unfold blsOf at e
      cases q : blsOf ds with
      | none => rw [q] at e; cases e
      | some cs =>
        rw [q] at e
        cases e
        rw [blsOf_ok h3 q, rv_bl.mp h2]
        rfl
    | _ => unfold blsOf at e; cases e
theorem intsOf_ok : ∀ {ds : List D} {vs : List V} {bs : List Int}, RVs K ρ H ds vs → intsOf ds = some bs → vs = bs.map V.int
  | [], vs, bs, h, e => by unfold RVs at h; unfold intsOf at e; subst h; cases e; rfl
  | d :: ds, vs, bs, h, e => by
    unfold RVs at h
    obtain ⟨v, r, rfl, h2, h3⟩ := h
    cases d with
    | int b =>
      unfold intsOf at e
      cases q : intsOf ds with
      | none => rw [q] at e; cases e
      | some cs =>
        rw [q] at e
        cases e
        rw [intsOf_ok h3 q, rv_int.mp h2]
        rfl
    | _ => unfold intsOf at e; cases e
theorem bindo {α β : Type} {o : Option α} {f : α → Option β} {b : β} (h : o.bind f = some b) : ∃ a, o = some a ∧ f a = some b := by
  cases o with
  | none => cases h
  | some a => exact ⟨a, rfl, h⟩
theorem post_o {W : Wx} {Q : VK} {o : Option RD} (h : Post K W (rRR K) ρ H Q (ofO o s)) : ∃ a, o = some a ∧ Post K W (rRR K) ρ H Q (.ok a s) := by
  cases o with
  | none => exact h.elim
  | some a => exact ⟨a, rfl, h⟩
end
/-! texts in order -/
theorem cps_le : ∀ a b : List Nat, ltCps b a = false → a ≤ b
  | [], b, _ => List.nil_le b
  | x :: a, [], h => by simp [ltCps] at h
  | x :: a, y :: b, h => by
    unfold ltCps at h
    rw [List.cons_le_cons_iff]
    by_cases h1 : x < y
    · exact .inl h1
    · by_cases h2 : y < x
      · simp [h2] at h
      · have e : x = y := by omega
        subst e
        simp at h
        exact .inr ⟨rfl, cps_le a b h⟩
theorem rising_pw : ∀ (p : Str) (l : List Str), risingS p l = true → (∀ x ∈ l, leS p x = true) ∧ l.Pairwise fun a b => leS a b = true
  | p, [], _ => ⟨fun x hx => (by cases hx), .nil⟩
  | p, x :: r, h => by
    unfold risingS at h
    rw [Bool.and_eq_true, Bool.not_eq_true'] at h
    have h0 : p.cps.toList ≤ x.cps.toList := cps_le _ _ h.1
    obtain ⟨i1, i2⟩ := rising_pw x r h.2
    refine ⟨fun y hy => ?_, .cons i1 i2⟩
    rcases List.mem_cons.mp hy with e | z
    · rw [e]; exact decide_eq_true h0
    · exact decide_eq_true (List.le_trans h0 (of_decide_eq_true (i1 y z)))
theorem sorted_pw (l : List Str) (h : sortedS l = true) : l.Pairwise fun a b => leS a b = true := by
  cases l with
  | nil => exact .nil
  | cons x r =>
    obtain ⟨i1, i2⟩ := rising_pw x r h
    exact .cons i1 i2
theorem sorted_is {ys xs : List Str} (p : ys.Perm xs) (h : sortedS ys = true) : ys = xs.mergeSort leS := by
  refine List.Perm.eq_of_pairwise (le := fun a b => leS a b = true) (fun a b _ _ p q => ?_) (sorted_pw ys h) ?_ (p.trans (List.mergeSort_perm _ _).symm)
  · have := List.le_antisymm (of_decide_eq_true p) (of_decide_eq_true q)
    cases a; cases b
    simpa using this
  · exact List.pairwise_mergeSort (le := leS) (fun a b c p q => decide_eq_true (List.le_trans (of_decide_eq_true p) (of_decide_eq_true q))) (fun a b => by
      rcases List.le_total a.cps.toList b.cps.toList with p | p <;> simp [leS, p]) xs
theorem rvs_str {K : Kw} {ρ : List Addr} {H : Hp} : ∀ ss : List Str, RVs K ρ H (ss.map D.str) (ss.map V.str)
  | [] => by show RVs _ _ _ [] _; unfold RVs; rfl
  | x :: r => by
    show RVs _ _ _ (.str x :: r.map D.str) _
    unfold RVs
    exact ⟨.str x, _, rfl, rv_str.mpr rfl, rvs_str r⟩
theorem keys_str : ∀ {kvs : List (D × D)} {vs : List (Key × V)} {ss : List Str}, vs.map (fun p => keyD p.1) = kvs.map (·.1) → strsOf (kvs.map (·.1)) = some ss → vs.map (·.1) = ss.map Sum.inr
  | [], vs, ss, h, e => by
    cases vs with
    | nil => cases e; rfl
    | cons _ _ => cases h
  | (k0, d0) :: r, vs, ss, h, e => by
    cases vs with
    | nil => cases h
    | cons q w =>
      obtain ⟨k1, v1⟩ := q
      rw [List.map_cons, List.map_cons] at h
      injection h with e1 h
      have e1 : keyD k1 = k0 := e1
      subst e1
      cases k1 with
      | inl i => rw [List.map_cons] at e; unfold strsOf at e; cases e
      | inr x =>
        rw [List.map_cons] at e
        have e : (strsOf (r.map (·.1))).map (x :: ·) = some ss := e
        obtain ⟨ss', e2, rfl⟩ := Option.map_eq_some_iff.mp e
        rw [List.map_cons, List.map_cons, keys_str h e2]
theorem strs_ok {K : Kw} {ρ : List Addr} {H : Hp} : ∀ {ds : List D} {vs : List V} {ss : List Str}, RVs K ρ H ds vs → strsOf ds = some ss → vs = ss.map V.str
  | [], vs, ss, h, e => by unfold RVs at h; unfold strsOf at e; subst h; cases e; rfl
  | d :: ds, vs, ss, h, e => by
    unfold RVs at h
    obtain ⟨v, r, rfl, h2, h3⟩ := h
    cases d with
    | str b =>
      unfold strsOf at e
      obtain ⟨cs, q, rfl⟩ := Option.map_eq_some_iff.mp e
      rw [strs_ok h3 q, rv_str.mp h2]
      rfl
    | _ => unfold strsOf at e; cases e
section
variable {X : Cx} {W : Wx}
theorem call_b1 (f : B1) (hu : X.A.units + 65 < cLine) (hc : X.calm = true) : CallR X f.val (rC1 X.kw W (b1R f)) := by
  intro pins s σ H xs us Q I r h
  obtain ⟨x, H0, ρ, st, a, rfl, rs, ra, h⟩ := h
  obtain ⟨d, e, h⟩ := post_o h
  cases f with
  | len =>
    unfold b1R at e
    simp only at e
    split at e
    · rename_i z
      split at e
      · rename_i c
        cases e
        exact call_len pins s σ H _ us Q I r ⟨x, z.length, rfl, by rw [rr_str ra]; exact ⟨c, rfl⟩, post_val rs h (rv_int.mpr rfl)⟩
      · cases e
    split at e
    · rename_i kvs ek
      cases e
      obtain ⟨p, vs, rfl, hp, g1, g2⟩ := dctAt_ok rs ra ek
      rw [Vals.ref1 r]
      have hl : vs.length = kvs.length := by
        have := congrArg List.length g1
        rwa [List.length_map, List.length_map] at this
      exact d_len I hp fun t s' I' => ⟨.int kvs.length, H, I', ⟨t, by rw [hl]⟩, post_val rs h (rv_int.mpr rfl)⟩
    · obtain ⟨ys, e1, e2⟩ := Option.map_eq_some_iff.mp e
      cases e2
      obtain ⟨p, vs, rfl, h1, h2⟩ := asQ_ok rs ra e1
      have hl := h2.length
      refine call_len pins s σ H _ us Q I r ⟨_, ys.length, rfl, ?_, post_val rs h (rv_int.mpr rfl)⟩
      rcases h1 with h1 | h1
      · exact .inl ⟨vs, h1, hl.symm⟩
      · exact .inr ⟨vs, h1, hl.symm⟩
  | dict =>
    obtain ⟨kvs, ek, e2⟩ := Option.map_eq_some_iff.mp (show (dctAt st a).map _ = some d from e)
    cases e2
    obtain ⟨p, vs, rfl, hp, g1, g2⟩ := dctAt_ok rs ra ek
    exact call_dictD pins s σ H _ us Q I r ⟨p, vs, rfl, hp, fun l hl => h ρ _ (.ref l) (Ext.laid hl) (rs.laid hl) ⟨l, rfl, .inl ⟨vs, upd_same, g1, RVs.mono (Ext.laid hl) _ _ g2⟩, rs.fresh hl, hl⟩⟩
  | tuple =>
    obtain ⟨ys, e1, e2⟩ := Option.map_eq_some_iff.mp (show (asQ st a).map _ = some d from e)
    cases e2
    obtain ⟨p, vs, rfl, h1, h2⟩ := asQ_ok rs ra e1
    refine call_tuple_of pins s σ H _ us Q I r ⟨p, vs, rfl, ?_⟩
    rcases h1 with h1 | h1
    · exact .inl ⟨h1, fun l hl => post_tup rs h2 h hl⟩
    · exact .inr ⟨h1, post_val rs h (rv_tup.mpr ⟨p, vs, rfl, h1, h2⟩)⟩
  | list =>
    unfold b1R at e
    simp only at e
    split at e
    · rename_i kvs ek
      cases e
      obtain ⟨p, vs, rfl, hp, g1, g2⟩ := dctAt_ok rs ra ek
      refine call_listD hc pins s σ H _ us Q I r ⟨p, vs, rfl, hp, fun l hl => ?_⟩
      have hk : RVs X.kw ρ H (kvs.map (·.1)) (vs.map fun q => kV q.1) := by
        rw [← g1]
        clear hp g1 g2 h ek
        induction vs with
        | nil => exact .nil_
        | cons q r ih =>
          refine .cons_ ?_ ih
          obtain ⟨k, v⟩ := q
          cases k with
          | inl i => exact rv_int.mpr rfl
          | inr x => exact rv_str.mpr rfl
      exact post_laid rs hk h hl
    obtain ⟨ys, e1, e2⟩ := Option.map_eq_some_iff.mp e
    cases e2
    obtain ⟨p, vs, rfl, h1, h2⟩ := asQ_ok rs ra e1
    exact call_list_of pins s σ H _ us Q I r ⟨p, vs, rfl, h1, fun l hl => post_laid rs h2 h hl⟩
  | all =>
    obtain ⟨bs, e1, e2⟩ := Option.map_eq_some_iff.mp (show ((asL st a).bind blsOf).map _ = some d from e)
    cases e2
    obtain ⟨ys, e3, e4⟩ := bindo e1
    obtain ⟨p, vs, rfl, h1, h2⟩ := asL_ok rs ra e3
    refine cr_all hc pins s σ H _ us Q I r ⟨p, bs, rfl, ?_, post_val rs h (rv_bl.mpr rfl)⟩
    rw [← blsOf_ok h2 e4]; exact h1
  | any =>
    obtain ⟨bs, e1, e2⟩ := Option.map_eq_some_iff.mp (show ((asL st a).bind blsOf).map _ = some d from e)
    cases e2
    obtain ⟨ys, e3, e4⟩ := bindo e1
    obtain ⟨p, vs, rfl, h1, h2⟩ := asL_ok rs ra e3
    refine cr_any hc pins s σ H _ us Q I r ⟨p, bs, rfl, ?_, post_val rs h (rv_bl.mpr rfl)⟩
    rw [← blsOf_ok h2 e4]; exact h1
  | sum =>
    obtain ⟨bs, e1, e2⟩ := Option.map_eq_some_iff.mp (show ((asL st a).bind intsOf).map _ = some d from e)
    cases e2
    obtain ⟨ys, e3, e4⟩ := bindo e1
    obtain ⟨p, vs, rfl, h1, h2⟩ := asL_ok rs ra e3
    refine cr_sum hc pins s σ H _ us Q I r ⟨p, bs, rfl, ?_, post_val rs h (rv_int.mpr rfl)⟩
    rw [← intsOf_ok h2 e4]; exact h1
  | int =>
    unfold b1R at e
    simp only at e
    split at e
    · cases e
      exact call_int1 pins s σ H _ us Q I r (.inl ⟨_, by rw [rr_int ra], post_val rs h (rv_int.mpr rfl)⟩)
    · cases e
      exact call_int1 pins s σ H _ us Q I r (.inr ⟨_, by rw [rr_bl ra], post_val rs h (rv_int.mpr rfl)⟩)
    · cases e
  | abs =>
    unfold b1R at e
    simp only at e
    split at e
    · cases e
      exact call_abs pins s σ H _ us Q I r ⟨_, by rw [rr_int ra], post_val rs h (rv_int.mpr rfl)⟩
    · cases e
  | sorted =>
    unfold b1R at e
    simp only at e
    split at e
    · rename_i kvs ek
      split at e
      · rename_i ss e1
        split at e
        · rename_i few
          cases e
          have ed : dctAt st a = some kvs := by
            unfold dctAt
            rw [ek]
            show (if dK kvs = true then some kvs else none) = some kvs
            rw [if_pos]
            unfold dK
            rw [List.all_eq_true]
            intro p hp
            have : ∀ {ds : List D} {ss : List Str}, strsOf ds = some ss → ∀ d ∈ ds, (keyK d).isSome = true := by
              intro ds
              induction ds with
              | nil => intro ss _ d hd; cases hd
              | cons d0 ds ih =>
                intro ss h d hd
                cases d0 with
                | str b =>
                  unfold strsOf at h
                  obtain ⟨cs, q, rfl⟩ := Option.map_eq_some_iff.mp h
                  rcases List.mem_cons.mp hd with e | hd
                  · rw [e]; rfl
                  · exact ih q d hd
                | _ => unfold strsOf at h; cases h
            exact this e1 p.1 (List.mem_map.mpr ⟨p, hp, rfl⟩)
          obtain ⟨p, vs, rfl, hp, g1, g2⟩ := dctAt_ok rs ra ed
          refine call_sortedX hu hc pins s σ H _ us Q I r ⟨p, vs, ss, rfl, hp, keys_str g1 e1, few, fun q hn => ?_⟩
          exact post_laid rs (rvs_str _) h hn
        · cases e
      · obtain ⟨rs', e1, e2⟩ := Option.map_eq_some_iff.mp e
        cases e2
        obtain ⟨ps, e3, ok, rfl⟩ := srtD_some e1
        obtain ⟨p, kv, wv, rfl, rk, rw', raw⟩ := raw_any rs ra ek
        exact call_sortedN hu hc pins s σ H _ us Q I r ⟨p, ρ, _, kv, wv, ps, rfl, raw, rk, e3, ok, fun q ws hn rws => post_laid rs rws h hn⟩
    · obtain ⟨ds, e3, e4⟩ := bindo e
      obtain ⟨p, vs, rfl, h1, h2⟩ := asL_ok rs ra e3
      split at e4
      · rename_i ss e5
        split at e4
        · rename_i few
          cases e4
          refine cr_sortedS pins s σ H _ us Q I r ⟨p, ss, rfl, ?_, few, fun ys q pm so hn => ?_⟩
          · rw [← strs_ok h2 e5]; exact h1
          · rw [sorted_is pm so]
            exact post_laid rs (rvs_str _) h hn
        · cases e4
      · obtain ⟨rs', e1, e2⟩ := Option.map_eq_some_iff.mp e4
        cases e2
        obtain ⟨ps, e6, ok, rfl⟩ := srtD_some e1
        exact call_sortedLN hu hc pins s σ H _ us Q I r ⟨p, ρ, ds, vs, ps, rfl, h1, h2, e6, ok, fun q ws hn rws => post_laid rs rws h hn⟩
theorem call_b2 (f : B2) (hc : X.calm = true) : CallR X f.val (rC2 X.kw W (b2R f)) := by
  intro pins s σ H xs us Q I r h
  obtain ⟨x, y, H0, H0', ρ, st, a, b, rfl, rs, ra, rb, h⟩ := h
  obtain ⟨d, e, h⟩ := post_o h
  unfold b2R at e
  split at e
  · cases e
    exact call_max2 hc pins s σ H _ us Q I r ⟨_, _, by rw [rr_int ra, rr_int rb], post_val rs h (rv_int.mpr rfl)⟩
  · cases e
    exact call_min2 hc pins s σ H _ us Q I r ⟨_, _, by rw [rr_int ra, rr_int rb], post_val rs h (rv_int.mpr rfl)⟩
  · cases e
/-- isinstance(x, T) -/
theorem sqt_ty {K : PySem.W.Frag} {H : Hp} {a : Addr} {xs : List V} (h : SqT K H a xs) : TyX K H (.ref a) (.type "tuple") := by
  rcases h with (h | ⟨o, h⟩) | ⟨o, its, n, h1, h2, _⟩
  · exact .base (.tup h)
  · exact .fTuple h
  · exact .kTuple h1 h2
theorem dct_ty {K : PySem.W.Frag} {H : Hp} {a : Addr} {kvs : List (Key × V)} (h : Rd H a (.dK kvs)) : TyX K H (.ref a) (.type "dict") := by
  rcases h with h | ⟨o, h⟩
  · exact .base (.dK h)
  · exact .fDict h
theorem sql_ty {K : PySem.W.Frag} {H : Hp} {a : Addr} {xs : List V} (h : SqL K H a xs) : TyX K H (.ref a) (.type "list") := by
  rcases h with (h | ⟨o, h⟩) | ⟨o, its, n, h1, h2, _⟩
  · exact .base (.lst h)
  · exact .base (.frz h)
  · exact .kList h1 h2
theorem call_isin (t : Ty) : CallR X (.builtin "isinstance") (fun xs H Q => ∃ x H0 ρ s a, xs = [x, .ty t.name] ∧ RS X.kw ρ H s ∧ RR X.kw H0 ρ H a x ∧ Post X.kw W (rRR X.kw) ρ H Q (ofO ((isinR s t a).map fun b => RD.d (.bl b)) s)) := by
  intro pins s σ H xs us Q I r h
  obtain ⟨x, H0, ρ, st, a, rfl, rs, ra, h⟩ := h
  obtain ⟨d, e, h⟩ := post_o h
  obtain ⟨b, e1, e2⟩ := Option.map_eq_some_iff.mp e
  cases e2
  have q : Q (.bl b) H := post_val rs h (rv_bl.mpr rfl)
  have go : ∀ (n : String), TyX X.K H x (.type n) → kitB n t.name = some b → wpAny (model X.prog X.w) X.A (call (.builtin "isinstance") us) (EP X pins σ Q) X.xe s := fun n hn hk =>
    call_isi pins s σ H _ us Q I r ⟨x, .ty t.name, .type n, .type t.name, b, rfl, .ty _, hn, kit_ty hk, q⟩
  unfold isinR at e1
  split at e1
  · cases e1
    obtain ⟨p, vs, rfl, h1, _⟩ := ra
    exact go "list" (sql_ty (SqL.of h1)) (by cases t <;> decide +kernel)
  · cases e1
    rw [rr_non ra] at go
    exact go "NoneType" (.base .non) (by cases t <;> decide +kernel)
  · cases e1
    rw [rr_bl ra] at go
    exact go "bool" (.base (.bl _)) (by cases t <;> decide +kernel)
  · cases e1
    rw [rr_int ra] at go
    exact go "int" (.base (.int _)) (by cases t <;> decide +kernel)
  · cases e1
    rw [rr_str ra] at go
    exact go "str" (.base (.str _)) (by cases t <;> decide +kernel)
  · cases e1
    obtain ⟨p, vs, rfl, h1, _⟩ := rr_tup ra
    exact go "tuple" (sqt_ty h1) (by cases t <;> decide +kernel)
  · cases e1
    unfold RR RV at ra
    obtain ⟨p, vs, rfl, h1, _⟩ := ra
    exact go "list" (sql_ty h1.sql) (by cases t <;> decide +kernel)
  · split at e1
    · rename_i hk
      cases e1
      obtain ⟨p, rfl, h1, _⟩ := ra
      obtain ⟨vs, h1, _⟩ := h1.dk hk
      exact go "dict" (.base (.dK h1)) (by cases t <;> decide +kernel)
    · cases e1
  · cases e1
    unfold RR RV at ra
    obtain ⟨p, o, vs, rfl, h1, _⟩ := ra
    exact go "dict" (.fDict h1) (by cases t <;> decide +kernel)
  · split at e1
    · rename_i kvs ek
      cases e1
      obtain ⟨p, vs, rfl, hp, g1, g2⟩ := dctAt_ok rs ra ek
      exact go "dict" (dct_ty hp) (by cases t <;> decide +kernel)
    obtain ⟨ys, e2, e3⟩ := Option.map_eq_some_iff.mp e1
    cases e3
    unfold RR RV at ra
    obtain ⟨p, rfl, h1⟩ := ra
    obtain ⟨p', vs, h2, h3, _⟩ := lstAt_ok rs e2
    rw [h1] at h2
    cases h2
    exact go "list" (sql_ty (SqL.of h3)) (by cases t <;> decide +kernel)

/-! ### subscripts, slices -/
theorem atI_ok {K : Kw} {ρ : List Addr} {H : Hp} {xs : List D} {vs : List V} {i : Int} {d : D} (r : RVs K ρ H xs vs) (h : atI xs i = some d) : ∃ v, atI vs i = some v ∧ RV K ρ H d v := by
  unfold atI at h ⊢
  rw [r.length]
  cases e : ixN xs.length i with
  | none => rw [e] at h; cases h
  | some j =>
    rw [e] at h
    exact r.get h
theorem ix_any (hu : X.A.units + 9 < cLine) : IxR X (rOp X.kw W ixR) := by
  intro value slice pins s σ H x y v u Q I rx ry h hs
  obtain ⟨H0, H0', ρ, st, a, b, rs, ra, rb, h⟩ := h
  have hq := post_o h
  clear h
  obtain ⟨d, e, h⟩ := hq
  unfold ixR at e
  split at e
  · unfold ixN1 at e
    obtain ⟨kvs, e1, e2⟩ := bindo e
    obtain ⟨k, e3, e4⟩ := bindo e2
    obtain ⟨d0, e5, rfl⟩ := Option.map_eq_some_iff.mp e4
    obtain ⟨i, p, xs, vs, rfl, hst, rfl, hi, hd⟩ := rs.nAt ra e1
    obtain ⟨r, g, n1, n2⟩ := dgn_of hd rb e3
    obtain ⟨v0, rfl, q2⟩ := n1 d0 e5
    cases rx
    exact tail_any (dgn_typeIs I g) PySem.F.slot_dict_getitem.lookup (dgn_getItem hu I g ry fun w' s3 I3 rw' => ⟨v0, H, I3, rw', post_val rs h q2⟩) hs
  · unfold ixB1 at e
    obtain ⟨kvs, e1, e2⟩ := bindo e
    obtain ⟨d0, e5, rfl⟩ := Option.map_eq_some_iff.mp e2
    obtain ⟨i, p, xs, vs, rfl, hst, rfl, hi, hd⟩ := rs.bAt ra e1
    obtain ⟨r, g, n1, n2⟩ := dgb_of hd (rr_bl rb)
    obtain ⟨v0, rfl, q2⟩ := n1 d0 e5
    cases rx
    exact tail_any (dgb_typeIs I g) PySem.F.slot_dict_getitem.lookup (dgb_getItem I g ry fun w' s3 I3 rw' => ⟨v0, H, I3, rw', post_val rs h q2⟩) hs
  unfold ixR1 at e
  split at e
  · rename_i kvs ek
    obtain ⟨k, e1, e2⟩ := bindo e
    obtain ⟨d0, e3, rfl⟩ := Option.map_eq_some_iff.mp e2
    obtain ⟨p, vs, rfl, hp, g1, g2⟩ := dctAt_ok rs ra ek
    obtain ⟨v0, q1, q2⟩ := (dlk_ok k g1 g2).1 d0 e3
    have ex := keyR_ok rb e1
    subst ex
    cases rx
    have g : DGet H p (kV k) (some v0) := by rw [← q1]; exact .inl ⟨_, _, hp, rfl, rfl⟩
    exact tail_any (dict_typeIs I g) PySem.F.slot_dict_getitem.lookup (d_getItem (by omega) I g ry fun w' s3 I3 rw' => ⟨v0, H, I3, rw', post_val rs h q2⟩) hs
  unfold ixR0 at e
  split at e
  · rename_i i _ _
    split at e
    · rename_i z _
      split at e
      · rename_i c
        obtain ⟨k, e1, e2⟩ := Option.map_eq_some_iff.mp e
        cases e2
        exact ix_str value slice pins s σ H x y v u Q I rx ry ⟨z, i, k, rr_str ra, rr_int rb, c, e1, post_val rs h (rv_str.mpr rfl)⟩ hs
      · cases e
    · obtain ⟨xs, e1, e2⟩ := bindo e
      obtain ⟨z, e3, e4⟩ := Option.map_eq_some_iff.mp e2
      cases e4
      obtain ⟨p, vs, h0, h1, h2⟩ := asQ_ok rs ra e1
      obtain ⟨v1, h3, h4⟩ := atI_ok h2 e3
      rcases h1 with h1 | h1
      · exact ix_list value slice pins s σ H x y v u Q I rx ry ⟨p, vs, i, v1, h0, rr_int rb, h1, h3, post_val rs h h4⟩ hs
      · exact ix_tup value slice pins s σ H x y v u Q I rx ry ⟨p, vs, i, v1, h0, rr_int rb, h1, h3, post_val rs h h4⟩ hs
  · cases e
theorem cut_ok {K : Kw} {ρ : List Addr} {H : Hp} {xs : List D} {vs : List V} (r : RVs K ρ H xs vs) (lo hi : Option Int) : RVs K ρ H (cutD xs lo hi) (cutV vs lo hi) := by
  unfold cutD cutV
  rw [r.length]
  exact (r.drop _).take _
theorem cutD_whole (xs : List D) (lo hi : Option Int) (h : HT.sIx xs.length 0 lo = 0 ∧ HT.sIx xs.length xs.length hi = xs.length) : cutD xs lo hi = xs := by
  unfold cutD
  rw [h.1, h.2, List.drop_zero, Nat.sub_zero, List.take_length]
theorem sl_any : SlR X (fun x lo hi H Q => ∃ H0 ρ s a, RS X.kw ρ H s ∧ RR X.kw H0 ρ H a x ∧ Post X.kw W (rRR X.kw) ρ H Q (ofO (slR s a lo hi) s)) := by
  intro pins s σ H x v vl vu lo hi sl Q I rx hs pl pu h
  obtain ⟨H0, ρ, st, a, rs, ra, h⟩ := h
  obtain ⟨d, e, h⟩ := post_o h
  unfold slR at e
  split at e
  · rename_i z
    split at e
    · rename_i c
      cases e
      exact sl_str pins s σ H x v vl vu lo hi sl Q I rx hs pl pu ⟨z, rr_str ra, c, post_val rs h (rv_str.mpr rfl)⟩
    · cases e
  · rename_i ds
    cases e
    obtain ⟨p, vs, h0, h1, h2⟩ := rr_tup ra
    refine sl_tupA pins s σ H x v vl vu lo hi sl Q I rx hs pl pu ⟨p, vs, h0, h1, fun hw => ?_, fun hw t ht => ?_⟩
    · rw [h2.length] at hw
      rw [cutD_whole ds lo hi hw] at h
      exact post_val rs h (rv_tup.mpr ⟨p, vs, rfl, h1, h2⟩)
    · exact post_tup rs (cut_ok h2 lo hi) h ht
  · obtain ⟨xs, e1, e2⟩ := Option.map_eq_some_iff.mp e
    cases e2
    obtain ⟨p, vs, h0, h1, h2⟩ := asL_ok rs ra e1
    exact sl_list pins s σ H x v vl vu lo hi sl Q I rx hs pl pu ⟨p, vs, h0, h1, fun t ht => post_laid rs (cut_ok h2 lo hi) h ht⟩

/-! ### methods of lists -/
theorem obj_lst {K : Kw} {ρ : List Addr} {H : Hp} {s : Sto} {i : Nat} {x : V} {xs : List D} (rs : RS K ρ H s) (r : RV K ρ H (.obj i) x) (h : s[i]? = some (.lst xs)) : ∃ p vs, x = .ref p ∧ ρ[i]? = some p ∧ H p = some (.lst vs) ∧ RVs K ρ H xs vs := by
  unfold RV at r
  obtain ⟨a, rfl, h2⟩ := r
  obtain ⟨p, vs, h3, h4, h5⟩ := rs.lstAt h
  rw [h2] at h3
  cases h3
  exact ⟨a, vs, rfl, h2, h4, h5⟩
theorem post_write {K : Kw} {ρ : List Addr} {H : Hp} {s : Sto} {Q : VK} {i : Nat} {p : Addr} {vs ws : List V} {xs : List D} {d : D} {v : V} (rs : RS K ρ H s) (hi : ρ[i]? = some p) (hp : H p = some (.lst vs)) (r : RVs K ρ H xs ws)
    (h : Post K W (rRR K) ρ H Q (.ok (.d d) (s.set i (.lst xs)))) (rd : RV K ρ H d v) : Q v (upd H p (.lst ws)) :=
  h ρ _ v (Ext.write hp (List.mem_of_getElem? hi)) (rs.write hi hp r) (RV.mono (Ext.write hp (List.mem_of_getElem? hi)) d v rd)
theorem mt_m0 (m : M0) : MtR X ("list." ++ m.name) (rM X.kw W (m0R m)) := by
  intro pins s σ H x xs v us Q I rx rv h
  obtain ⟨ρ, st, d, rfl, rs, rd, h⟩ := h
  unfold m0R at h
  split at h
  · rename_i i
    split at h
    · rename_i ys e
      obtain ⟨p, vs, rfl, h1, h2, h3⟩ := obj_lst rs rd e
      exact mt_reverse pins s σ H _ _ v us Q I rx rv ⟨p, vs, rfl, rfl, h2, post_write rs h1 h2 h3.reverse h (rv_non.mpr rfl)⟩
    · rename_i ys e
      obtain ⟨p, vs, rfl, h1, h2, h3⟩ := obj_lst rs rd e
      exact mt_clear pins s σ H _ _ v us Q I rx rv ⟨p, vs, rfl, rfl, h2, post_write rs h1 h2 .nil_ h (rv_non.mpr rfl)⟩
    · rename_i ys e
      obtain ⟨p, vs, rfl, h1, h2, h3⟩ := obj_lst rs rd e
      split at h
      · rename_i y ey
        obtain ⟨v1, h4, h5⟩ := h3.get ey
        exact mt_pop pins s σ H _ _ v us Q I rx rv ⟨p, vs, v1, rfl, rfl, h2, by rw [h3.length]; exact h4, post_write rs h1 h2 (by rw [List.dropLast_eq_take, List.dropLast_eq_take, h3.length]; exact h3.take _) h h5⟩
      · exact h.elim
    · exact h.elim
  · exact h.elim
theorem mt_m1 (m : M1) : MtR X ("list." ++ m.name) (rM1 X.kw W (m1R m)) := by
  intro pins s σ H x xs v us Q I rx rv h
  obtain ⟨y, H0, ρ, st, d, a, rfl, rs, rd, ra, h⟩ := h
  unfold m1R at h
  split at h
  · rename_i i
    split at h
    · rename_i ys z e
      obtain ⟨p, vs, rfl, h1, h2, h3⟩ := obj_lst rs rd e
      split at h
      · rename_i c
        exact mt_append pins s σ H _ _ v us Q I rx rv ⟨p, vs, y, rfl, rfl, h2, by rw [h3.length]; exact c, post_write rs h1 h2 (h3.append (.one ra)) h (rv_non.mpr rfl)⟩
      · exact h.elim
    · rename_i ys e
      obtain ⟨p, vs, rfl, h1, h2, h3⟩ := obj_lst rs rd e
      split at h
      · rename_i zs e2
        split at h
        · rename_i c
          obtain ⟨q, us', rfl, h4, h5⟩ := asM_ok rs ra e2
          exact mt_extend pins s σ H _ _ v us Q I rx rv ⟨p, q, vs, us', rfl, rfl, h2, h4, by rw [h3.length, h5.length]; exact c, post_write rs h1 h2 (h3.append h5) h (rv_non.mpr rfl)⟩
        · exact h.elim
      · exact h.elim
    · exact h.elim
  · exact h.elim
/-! ### stores -/
theorem set_any (hu : X.A.units + 9 < cLine) : PSet X (fun o i v H Q => ∃ ρ s p k d, RS X.kw ρ H s ∧ RV X.kw ρ H p o ∧ RV X.kw ρ H k i ∧ RV X.kw ρ H d v ∧
    match setR p k d s with
    | .ok _ s' => ∀ H', Ext X.kw ρ H ρ H' → RS X.kw ρ H' s' → Q H'
    | _ => False) := by
  intro pins s σ H o i v ov iv u Q I ro ri rv h
  obtain ⟨ρ, st, p, k, d, rs, rp, rk, rd, h⟩ := h
  split at h
  · rename_i r s' e
    unfold setR at e
    split at e
    · rename_i i0
      split at e
      · rename_i xs ex
        split at e
        · split at e
          · rename_i j ej
            cases e
            obtain ⟨q, vs, rfl, h1, h2, h3⟩ := obj_lst rs rp ex
            refine set_list pins s σ H _ _ v ov iv u Q I ro ri rv ⟨q, vs, _, j, rfl, rv_int.mp rk, h2, by rw [h3.length]; exact ej, ?_⟩
            exact h _ (Ext.write h2 (List.mem_of_getElem? h1)) (rs.write h1 h2 (RVs.set rd j h3))
          · cases e
        · cases e
      · rename_i kvs ex
        split at e
        · rename_i kk ek
          split at e
          · rename_i few
            cases e
            obtain ⟨q, vs, h1, h2, h3, h4⟩ := rs.dctAt ex few.2
            have rp : RV X.kw ρ H (.obj i0) o := rp
            unfold RV at rp
            obtain ⟨q', rfl, h5⟩ := rp
            rw [h1] at h5
            cases h5
            have hl : vs.length = kvs.length := by
              have := congrArg List.length h3
              rwa [List.length_map, List.length_map] at this
            have ei : i = kV kk := keyR_ok (H0 := H) (a := .d k) rk ek
            subst ei
            obtain ⟨g1, g2⟩ := dput_ok (k := kk) rd h3 h4
            exact set_dict (by omega) pins s σ H _ _ v ov iv u Q I ro ri rv ⟨q, _, rfl, .k h2 (by have := few.1; omega), h _ (Ext.writeD h2 (List.mem_of_getElem? h1)) (rs.writeD h1 h2 g1 g2)⟩
          · cases e
        · split at e
          · rename_i kn ekn
            split at e
            · rename_i few
              cases e
              have rp : RV X.kw ρ H (.obj i0) o := rp
              unfold RV at rp
              obtain ⟨q', rfl, h5⟩ := rp
              obtain ⟨xs, vs, hd⟩ := dN_dk few.2 (rs.ob i0 _ q' ex h5)
              cases ro
              exact set_dn hu I rs h5 hd few.1 ekn rk ri rd rv fun H' s' ext rs' I' => ⟨H', I', h H' ext rs'⟩
            · cases e
          · split at e
            · rename_i b ekb
              split at e
              · rename_i few
                cases e
                have rp : RV X.kw ρ H (.obj i0) o := rp
                unfold RV at rp
                obtain ⟨q', rfl, h5⟩ := rp
                obtain ⟨xs, vs, hd⟩ := dB_dk few.2 (rs.ob i0 _ q' ex h5)
                cases ro
                have ei : i = .bl b := by
                  cases k with
                  | bl c => unfold keyB at ekb; cases ekb; exact rv_bl.mp rk
                  | _ => unfold keyB at ekb; cases ekb
                subst ei
                exact set_db I rs h5 hd few.1 ri rd rv fun H' s' ext rs' I' => ⟨H', I', h H' ext rs'⟩
              · cases e
            · cases e
      · cases e
    · cases e
  · exact h.elim
/-! ### truth -/
theorem truth_ok {K : Kw} {ρ : List Addr} {H H0 : Hp} {s : Sto} {a : RD} {x : V} {t : Bool} (rs : RS K ρ H s) (ra : RR K H0 ρ H a x) (h : truthR s a = some t) : TruV K x H t := by
  have nil_ : ∀ {ds : List D} {vs : List V}, RVs K ρ H ds vs → (!ds.isEmpty) = !vs.isEmpty := fun {ds vs} r => by
    have := r.length
    cases ds <;> cases vs <;> first | rfl | cases this
  unfold truthR at h
  split at h
  · cases h
    obtain ⟨p, vs, rfl, h1, h2, _⟩ := ra
    exact .inl ⟨vs, SqL.of h1, nil_ h2⟩
  · cases h; rw [rr_non ra]; rfl
  · cases h; rw [rr_bl ra]; rfl
  · cases h; rw [rr_int ra]; rfl
  · split at h
    · rename_i c
      cases h; rw [rr_str ra]; exact ⟨c, rfl⟩
    · cases h
  · cases h
    obtain ⟨p, vs, rfl, h1, h2⟩ := rr_tup ra
    exact .inr (.inl ⟨vs, h1, nil_ h2⟩)
  · cases h
    unfold RR RV at ra
    obtain ⟨p, vs, rfl, h1, h2⟩ := ra
    exact .inl ⟨vs, h1.sql, nil_ h2⟩
  · split at h
    · rename_i hk
      cases h
      obtain ⟨p, rfl, h1, _⟩ := ra
      obtain ⟨vs, h1, h2, h3⟩ := h1.dk hk
      refine .inr (.inr ⟨vs, h1, ?_⟩)
      have q := nil_ h3
      simpa using q
    · cases h
  · cases h
  · split at h
    · rename_i kvs ek
      cases h
      obtain ⟨p, vs, rfl, hp, g1, g2⟩ := dctAt_ok rs ra ek
      have hp : H p = some (.dK vs) := by
        unfold dctAt anyD at ek
        simp only at ek
        split at ek
        · rename_i kvs' e
          have ek : (if dK kvs' = true then some kvs' else none) = some kvs := ek
          split at ek
          case isFalse => cases ek
          rename_i hk
          obtain ⟨p', vs', q1, q2, q3, q4⟩ := rs.dctAt e hk
          have r := ra
          unfold RR RV at r
          obtain ⟨a', ea, ha⟩ := r
          cases ea
          rw [ha] at q1
          cases q1
          rcases hp with hp | ⟨o, hp⟩
          · exact hp
          · rw [hp] at q2; cases q2
        · cases ek
      refine .inr (.inr ⟨vs, hp, ?_⟩)
      cases kvs <;> cases vs <;> first | rfl | cases g1
    obtain ⟨ys, e2, e3⟩ := Option.map_eq_some_iff.mp h
    cases e3
    unfold RR RV at ra
    obtain ⟨p, rfl, h1⟩ := ra
    obtain ⟨p', vs, h2, h3, h4⟩ := lstAt_ok rs e2
    rw [h1] at h2
    cases h2
    exact .inl ⟨vs, SqL.of h3, nil_ h4⟩
end
end Nv

set_option Elab.async false
set_option linter.all false
set_option maxRecDepth 100000
set_option autoImplicit false
/-! NvCk: whether a term of the language stands for a piece of the text. -/
namespace Nv
open PySem L2

def visB (sc : Scope) (x : Str) : Bool :=
  match sc.names.lookup x with
  | some .local => true
  | some .cell => true
  | some .free => true
  | _ => false
def glB (sc : Scope) (x : Str) : Bool := decide (sc.names.lookup x = some .globalImplicit) && !(x == ("__debug__" : Str)) && !(x == ("__name__" : Str))
/-- a name that may be stored -/
def locB (sc : Scope) (x : Str) : Bool :=
  match sc.names.lookup x with
  | some .local => true
  | some .cell => true
  | _ => false
mutual
def ckT (N : List Str) (sc : Scope) : Tg → Expr → Bool
  | .v i, .Name x _ => decide (N[i]? = some x) && locB sc x
  | .v _, _ => false
  | t, .Tuple es _ _ => ckTs N sc t es
  | _, _ => false
def ckTs (N : List Str) (sc : Scope) : Tg → List Expr → Bool
  | .n, [] => true
  | .c a b, e :: es => ckT N sc a e && ckTs N sc b es
  | _, _ => false
end
def Tg.slots : Tg → List Nat
  | .v i => [i]
  | .n => []
  | .c a b => a.slots ++ b.slots
def notCall0 : Expr → Bool
  | .Call _ [] _ _ => false
  | _ => true
/-- forms that need no more looks -/
def okE : Expr → Bool
  | .Starred .. => false
  | .Set .. => false
  | .SetComp .. => false
  | .DictComp .. => false
  | .Slice .. => false
  | _ => true
def isLC : Expr → Bool
  | .ListComp .. => true
  | _ => false
def ownOf (N : List Str) (own : List Nat) : List (Str × Nat) := own.filterMap fun i => (N[i]?).map fun x => (x, i)
def tgOk (tu : Bool) (tg : Expr) : Bool := !tu || (match tg with | .Tuple .. => true | _ => false)
/-- a test that is its value's truth -/
def plainE : Expr → Bool
  | .UnaryOp .Not _ _ => false
  | .BoolOp .. => false
  | .IfExp .. => false
  | .Compare .. => false
  | _ => true
def Ex.isFrz : Ex → Bool
  | .frz _ => true
  | _ => false
structure Ck where
  e : Scope → Expr → Bool
  l : Scope → List Expr → Bool
def noE : Scope → Expr → Bool := fun _ _ => false
def noL : Scope → List Expr → Bool := fun _ _ => false
def ck (T : Tab) (N : List Str) : Ex → Ck
  | .nil => ⟨noE, fun _ es => match es with | [] => true | _ => false⟩
  | .cons a b => ⟨noE, fun sc es => match es with | e :: r => (ck T N a).e sc e && (ck T N b).l sc r | _ => false⟩
  | .var i => ⟨fun sc e => match e with | .Name x _ => decide (N[i]? = some x) && visB sc x && !(x == ("__debug__" : Str)) && !(x == ("__classdict__" : Str)) | _ => false, noL⟩
  | .int z => ⟨fun _ e => match e with | .Constant (.int y) _ _ => decide (y = z) | _ => false, noL⟩
  | .str z => ⟨fun _ e => match e with | .Constant (.str y) _ _ => decide (y = z) | _ => false, noL⟩
  | .bl z => ⟨fun _ e => match e with | .Constant (.bool y) _ _ => decide (y = z) | _ => false, noL⟩
  | .non => ⟨fun _ e => match e with | .Constant .none _ _ => true | _ => false, noL⟩
  | .gc j => ⟨fun sc e => match e with | .Name x _ => decide ((T.cons[j]?).map (·.1) = some x) && glB sc x | _ => false, noL⟩
  | .tup es => ⟨fun sc e => match e with | .Tuple xs _ _ => (ck T N es).l sc xs | _ => false, noL⟩
  | .lst es => ⟨fun sc e => match e with | .List xs _ => (ck T N es).l sc xs | _ => false, noL⟩
  | .bin o a b => ⟨fun sc e => match e with | .BinOp x op y _ => decide (op = o.op) && (ck T N a).e sc x && (ck T N b).e sc y | _ => false, noL⟩
  | .neg a => ⟨fun sc e => match e with | .UnaryOp .USub x _ => (ck T N a).e sc x | _ => false, noL⟩
  | .nt a => ⟨fun sc e => match e with | .UnaryOp .Not x _ => (ck T N a).e sc x | _ => false, noL⟩
  | .cmp o a b => ⟨fun sc e => match e with | .Compare x [op] [y] _ => decide (op = o.op) && (ck T N a).e sc x && (ck T N b).e sc y | _ => false, noL⟩
  | .cmp2 o o' a b c => ⟨fun sc e => match e with | .Compare x [op, op'] [y, z] _ => decide (op = o.op) && decide (op' = o'.op) && (ck T N a).e sc x && (ck T N b).e sc y && (ck T N c).e sc z | _ => false, noL⟩
  | .kin j kvs a => ⟨fun sc e => match e with | .Compare x [.In] [.Name y _] _ => decide (T.kds[j]? = some (y, kvs)) && glB sc y && (ck T N a).e sc x | _ => false, noL⟩
  | .kix j kvs a => ⟨fun sc e => match e with | .Subscript (.Name y _) x _ => decide (T.kds[j]? = some (y, kvs)) && glB sc y && (ck T N a).e sc x | _ => false, noL⟩
  | .and a b => ⟨fun sc e => match e with
    | .BoolOp .And [x, y] _ => (ck T N a).e sc x && (ck T N b).e sc y
    | .BoolOp .And (x :: y :: z :: r) p => (ck T N a).e sc x && (ck T N b).e sc (.BoolOp .And (y :: z :: r) p)
    | _ => false, noL⟩
  | .or a b => ⟨fun sc e => match e with
    | .BoolOp .Or [x, y] _ => (ck T N a).e sc x && (ck T N b).e sc y
    | .BoolOp .Or (x :: y :: z :: r) p => (ck T N a).e sc x && (ck T N b).e sc (.BoolOp .Or (y :: z :: r) p)
    | _ => false, noL⟩
  | .ife c a b => ⟨fun sc e => match e with | .IfExp z x y _ => (ck T N c).e sc z && (ck T N a).e sc x && (ck T N b).e sc y | _ => false, noL⟩
  | .call f es => ⟨fun sc e => match e with | .Call (.Name x _) xs [] _ => decide ((T.fns[f]?).map (·.name) = some x) && glB sc x && (ck T N es).l sc xs | _ => false, noL⟩
  | .b1 f a => ⟨fun sc e => match e with | .Call (.Name x _) [y] [] _ => decide (x = (f.name : Str)) && glB sc x && T.blts.contains x && (ck T N a).e sc y | _ => false, noL⟩
  | .b2 f a b => ⟨fun sc e => match e with | .Call (.Name x _) [y, z] [] _ => decide (x = (f.name : Str)) && glB sc x && T.blts.contains x && (ck T N a).e sc y && (ck T N b).e sc z | _ => false, noL⟩
  | .i1 f a => ⟨fun sc e => match e with | .Call (.Name x _) [y] [] _ => decide (x = (f.name : Str)) && glB sc x && T.blts.contains x && (ck T N a).e sc y | _ => false, noL⟩
  | .i2 f a b => ⟨fun sc e => match e with | .Call (.Name x _) [y, z] [] _ => decide (x = (f.name : Str)) && glB sc x && T.blts.contains x && (ck T N a).e sc y && (ck T N b).e sc z | _ => false, noL⟩
  | .isin a t => ⟨fun sc e => match e with | .Call (.Name x _) [y, .Name z _] [] _ => decide (x = ("isinstance" : Str)) && glB sc x && T.blts.contains x && (ck T N a).e sc y && decide (z = (t.name : Str)) && glB sc z && T.blts.contains z | _ => false, noL⟩
  | .fs f a => ⟨fun sc e => match e with | .Call (.Name x _) [.Call (.Name z _) [y] [] _] [] _ => decide (x = (f.name : Str)) && glB sc x && T.blts.contains x && decide (z = ("set" : Str)) && glB sc z && T.blts.contains z && (ck T N a).e sc y | _ => false, noL⟩
  | .si a => ⟨fun sc e => match e with | .Call (.Name x _) [.Call (.Attribute y m ap) [] [] cp] [] _ => decide (x = ("sorted" : Str)) && glB sc x && T.blts.contains x && decide (m = ("items" : Str)) && (ap.endLine == cp.line) && notCall0 y && (ck T N a).e sc y | _ => false, noL⟩
  | .dd2 k1 a k2 b => ⟨fun sc e => match e with | .Dict [some (.Constant (.str y1) _ _), some (.Constant (.str y2) _ _)] [v1, v2] _ => decide (y1 = k1) && decide (y2 = k2) && (ck T N a).e sc v1 && (ck T N b).e sc v2 | _ => false, noL⟩
  | .rev a => ⟨fun sc e => match e with | .Subscript x (.Slice none none (some (.UnaryOp .USub (.Constant (.int 1) _ _) _)) _) _ => (ck T N a).e sc x | _ => false, noL⟩
  | .dnew => ⟨fun _ e => match e with | .Dict [] [] _ => true | _ => false, noL⟩
  | .dget o k x => ⟨fun sc e => match e with | .Call (.Attribute y m ap) [z, w] [] cp => decide (m = ("get" : Str)) && (ap.endLine == cp.line) && notCall0 y && (ck T N o).e sc y && (ck T N k).e sc z && (ck T N x).e sc w | _ => false, noL⟩
  | .dget1 o k => ⟨fun sc e => match e with | .Call (.Attribute y m ap) [z] [] cp => decide (m = ("get" : Str)) && (ap.endLine == cp.line) && notCall0 y && (ck T N o).e sc y && (ck T N k).e sc z | _ => false, noL⟩
  | .any => ⟨fun _ e => okE e && !isLC e, noL⟩
  | .frz a => ⟨fun sc e => plainE e && !a.isFrz && (ck T N a).e sc e, noL⟩
  | .rng3 a b c => ⟨fun sc e => match e with | .Call (.Name x _) [y, z, v] [] _ => decide (x = ("range" : Str)) && glB sc x && T.blts.contains x && (ck T N a).e sc y && (ck T N b).e sc z && (ck T N c).e sc v | _ => false, noL⟩
  | .m0 m o => ⟨fun sc e => match e with | .Call (.Attribute y x ap) [] [] cp => decide (x = (m.name : Str)) && (ap.endLine == cp.line) && notCall0 y && (ck T N o).e sc y | _ => false, noL⟩
  | .m1 m o a => ⟨fun sc e => match e with | .Call (.Attribute y x ap) [z] [] cp => decide (x = (m.name : Str)) && (ap.endLine == cp.line) && notCall0 y && (ck T N o).e sc y && (ck T N a).e sc z | _ => false, noL⟩
  | .ix a b => ⟨fun sc e => match e with | .Subscript x y _ => (ck T N a).e sc x && (ck T N b).e sc y | _ => false, noL⟩
  | .sl a lo hi => ⟨fun sc e => match e with
    | .Subscript x (.Slice l u none _) _ => (ck T N a).e sc x && (match l with | none => lo.isNil | some y => !lo.isNil && (ck T N lo).e sc y) && (match u with | none => hi.isNil | some y => !hi.isNil && (ck T N hi).e sc y)
    | _ => false, noL⟩
  | .cp elt tg it c own => ⟨fun sc e => match e with
    | .ListComp x [⟨t, i, ifs, 0⟩] scope _ => (ck T N it).e sc i && tgOk it.tupIt t && blkC N sc scope (ownOf N own) && decide ((ownOf N own).map (·.2) = own) && ckT N scope tg t && tg.slots.all (fun j => own.contains j)
        && (match ifs with | [] => c.isNil | [y] => !c.isNil && (ck T N c).e (relS scope sc) y | _ => false) && (ck T N elt).e (relS scope sc) x
    | _ => false, noL⟩

structure CkS where
  s : Scope → Stmt → Bool
  l : Scope → List Stmt → Bool
def noS : Scope → Stmt → Bool := fun _ _ => false
def noSL : Scope → List Stmt → Bool := fun _ _ => false
/-- whether a comprehension given to a name is stored by its own frame -/
def swapB (sc : Scope) (t : Expr) (v : Expr) : Option Bool :=
  match v with
  | .ListComp _ _ scope pos => (match t with
    | .Name y py => if sc.names.lookup y = some .local then (if (py.line == pos.line) = true ∧ (scope.names.any fun (n, k) => n == y && (k == .local || k == .cell)) = false then some true else none) else some false
    | _ => some false)
  | _ => some false
def namesAre (sc : Scope) : List Str → List Expr → Bool
  | [], [] => true
  | t :: ts, .Name y _ :: ys => decide (y = t) && glB sc y && namesAre sc ts ys
  | _, _ => false
/-- a test in an except suite: e at slot i, of class n -/
def hxck (T : Tab) (N : List Str) (sc : Scope) (i : Nat) (n : Str) : Hx → Expr → Bool
  | .bl b, v => match v with
    | .Constant (.bool y) _ _ => decide (y = b)
    | _ => false
  | .isx m ts b, v => match v with
    | .Call (.Name x _) [.Name e _, y] [] _ => decide (x = ("isinstance" : Str)) && glB sc x && T.blts.contains x && decide (N[i]? = some e) && visB sc e && !(e == ("__debug__" : Str)) && !(e == ("__classdict__" : Str))
        && (if m = true then (match y with | .Tuple ys _ _ => namesAre sc ts ys && decide (b = false) && decide (T.isAny n ts = some b) && decide (ys.length ≤ 1000) | _ => false)
          else (match y with | .Name z _ => (match ts with | [t] => decide (z = t) && glB sc z && T.isx.contains (n, t, b) | _ => false) | _ => false))
    | _ => false
  | .and a c, v => match v with
    | .BoolOp .And [x, y] _ => hxck T N sc i n a x && hxck T N sc i n c y
    | _ => false
  | .or _ _, _ => false
  | .nt _, _ => false
def hck (T : Tab) (N : List Str) (sc : Scope) (i : Nat) (n : Str) : Hs → List Stmt → Bool
  | .nil, ss => match ss with
    | [] => true
    | _ => false
  | .set j x r, ss => match ss with
    | .Assign [.Name y _] v _ :: ss => decide (N[j]? = some y) && decide (j ≠ i) && locB sc y && okE v && !isLC v && hxck T N sc i n x v && hck T N sc i n r ss
    | _ => false
  | .ifs x a r, ss => match ss with
    | .If c b [] _ :: ss => hxck T N sc i n x c && hck T N sc i n a b && hck T N sc i n r ss
    | _ => false
/-- a statement whose exceptions come ahead of its stores -/
def Sm.simple : Sm → Bool
  | .ex _ => true
  | .set _ _ => true
  | .ret _ => true
  | .ifs _ a b => a.simple && b.simple
  | .nil => true
  | .cons a .nil => a.simple
  | _ => false
def ckS (T : Tab) (N : List Str) : Sm → CkS
  | .nil => ⟨noS, fun _ ss => match ss with | [] => true | _ => false⟩
  | .cons a b => ⟨noS, fun sc ss => match ss with | e :: r => (ckS T N a).s sc e && (ckS T N b).l sc r | _ => false⟩
  | .ex e => ⟨fun sc s => match s with | .Expr x _ => !isLC x && (ck T N e).e sc x | _ => false, noSL⟩
  | .set tg e => ⟨fun sc s => match s with | .Assign [t] x p => ckT N sc tg t && (ck T N e).e sc x && (match tg with | .v _ => true | _ => (match x with | .Tuple .. => false | _ => true)) && (swapB sc t x).isSome | _ => false, noSL⟩
  | .setI o i e => ⟨fun sc s => match s with | .Assign [.Subscript x y _] z _ => (ck T N o).e sc x && (ck T N i).e sc y && (ck T N e).e sc z | _ => false, noSL⟩
  | .aug i o e => ⟨fun sc s => match s with | .AugAssign (.Name x _) op z _ => decide (op = o.op) && decide (N[i]? = some x) && locB sc x && (ck T N e).e sc z | _ => false, noSL⟩
  | .ret e => ⟨fun sc s => match s with | .Return (some x) _ => (ck T N e).e sc x | _ => false, noSL⟩
  | .retN => ⟨fun sc s => match s with | .Return none _ => true | _ => false, noSL⟩
  | .ifs c a b => ⟨fun sc s => match s with | .If x y z _ => (ck T N c).e sc x && (ckS T N a).l sc y && (ckS T N b).l sc z | _ => false, noSL⟩
  | .for_ tg it b => ⟨fun sc s => match s with | .For t x y [] _ => ckT N sc tg t && tgOk it.tupIt t && (ck T N it).e sc x && (ckS T N b).l sc y | _ => false, noSL⟩
  | .wh c b => ⟨fun sc s => match s with | .While x y [] _ => (ck T N c).e sc x && (ckS T N b).l sc y | _ => false, noSL⟩
  | .brk => ⟨fun sc s => match s with | .Break _ => true | _ => false, noSL⟩
  | .cnt => ⟨fun sc s => match s with | .Continue _ => true | _ => false, noSL⟩
  | .pass => ⟨fun sc s => match s with | .Pass _ => true | .Expr (.Constant (.str _) _ _) _ => true | _ => false, noSL⟩
  | .any => ⟨fun _ _ => true, noSL⟩
  | .setSl o lo hi e => ⟨fun sc s => match s with | .Assign [.Subscript x (.Slice (some a) (some b) none _) _] z _ => (ck T N o).e sc x && (ck T N lo).e sc a && (ck T N hi).e sc b && (ck T N e).e sc z | _ => false, noSL⟩
  | .raise n => ⟨fun sc s => match s with | .Raise (some (.Call (.Name x _) [.Constant (.str _) _ _] [] _)) none _ => decide (x = n) && T.excs.contains n && glB sc x | _ => false, noSL⟩
  | .try_ b cls i n h => ⟨fun sc s => match s with
    | .Try body [.ExceptHandler (some (.Name x _)) (some e) (b0 :: suite) _] [] [] _ => decide (x = cls) && glB sc x && decide (N[i]? = some e) && decide (sc.names.lookup e = some .local) && b.simple && T.exm.contains (n, cls) && (ckS T N b).l sc body && hck T N sc i n h (b0 :: suite)
    | _ => false, noSL⟩
end Nv

set_option Elab.async false
set_option linter.all false
set_option maxRecDepth 100000
set_option autoImplicit false
set_option maxHeartbeats 1000000
/-! NvEx: expressions keep what the interpreter says of them. -/
namespace Nv
open PySem PySem.Spec PyProof.Rows L2

/-- what is wanted of an exception, by the class of the text that it is of -/
abbrev wE (mg : Str → Option Value) (E : XK) : Wx := fun _ H x => ∃ (n : Str) (C : Addr), x = .str n ∧ mg n = some (.ref C) ∧ E (.ref C) none H
abbrev wS (mg : Str → Option Value) (W : WX) : L2.St → Wx := fun σ => wE mg (WE W σ)
/-- nothing is raised -/
abbrev W0 : Wx := fun _ _ _ => False
theorem post_w {α β : Type} {K : Kw} {W W' : Wx} {R : Hp → List Addr → Hp → α → β → Prop} {ρ : List Addr} {H : Hp} {Q : β → Hp → Prop} {o : Option α} {s : Sto} (h : Post K W R ρ H Q (ofO o s)) : Post K W' R ρ H Q (ofO o s) := by
  cases o with
  | none => exact h.elim
  | some a => exact h
abbrev WF : WX := fun _ _ _ _ => False
/-- the turns of a walk: what comes, one item after another -/
def ItOk (K : Kw) (ρ : List Addr) (H : Hp) (its : Nv.Its) (J : It) : Prop :=
  ∀ (ρ1 : List Addr) (H1 : Hp) (s1 : Sto), Ext K ρ H ρ1 H1 → RS K ρ1 H1 s1 → srcOk its.src s1 → ∀ i,
    (∀ d, its.ds[i]? = some d → J.go i H1 ∧ ∀ x H2, J.yld i H1 x H2 → Ext K ρ1 H1 ρ1 H2 ∧ RS K ρ1 H2 s1 ∧ RV K ρ1 H2 d x) ∧ (its.ds.length = i → J.stop i H1)
abbrev rIt (K : Kw) : Hp → List Addr → Hp → Nv.Its → It → Prop := fun _ ρ H its J => ItOk K ρ H its J
theorem bkIt {K : Kw} : Bk K (rIt K) := fun _ _ _ _ _ _ _ _ _ h => h

def tR (K : Kw) (W : L2.St → Wx) (m : M RD) : TE := fun σ H Q => ∃ ρ l s, RS K ρ H s ∧ RL K ρ H σ l ∧ Post K (W σ) (rRR K) ρ H Q (m l s)
def tVv (K : Kw) (W : L2.St → Wx) (m : M D) : TE := fun σ H Q => ∃ ρ l s, RS K ρ H s ∧ RL K ρ H σ l ∧ Post K (W σ) (rRV K) ρ H Q (m l s)
def tBb (K : Kw) (W : L2.St → Wx) (m : M Bool) : TT := fun σ H Q => ∃ ρ l s, RS K ρ H s ∧ RL K ρ H σ l ∧ Post K (W σ) rB ρ H Q (m l s)
def tAa (K : Kw) (W : L2.St → Wx) (m : M (List D)) : TA := fun σ H Q => ∃ ρ l s, RS K ρ H s ∧ RL K ρ H σ l ∧ Post K (W σ) (rRVs K) ρ H Q (m l s)
def tIi (K : Kw) (W : L2.St → Wx) (m : M Nv.Its) : TI := fun σ H R => ∃ ρ l s, RS K ρ H s ∧ RL K ρ H σ l ∧ Post K (W σ) (rIt K) ρ H R (m l s)

section
variable {X : Cx} {e : Expr} {es : List Expr}
theorem pe_wk {t t' : TE} (h : PE X e t) (w : ∀ σ H Q, t' σ H Q → t σ H Q) : PE X e t' := ⟨fun pins s σ H Q I q => h.run pins s σ H Q I (w σ H Q q)⟩
theorem pt_wk {t t' : TT} (h : PT X e t) (w : ∀ σ H Q, t' σ H Q → t σ H Q) : PT X e t' := ⟨fun pins s σ H Q I q => h.run pins s σ H Q I (w σ H Q q)⟩
theorem pw_wk {t t' : TT} (h : PW X e t) (w : ∀ σ H Q, t' σ H Q → t σ H Q) : PW X e t' := ⟨fun wh pins s σ H Q I q => h.run wh pins s σ H Q I (w σ H Q q)⟩
theorem pa_wk {t t' : TA} (h : PA X es t) (w : ∀ σ H Q, t' σ H Q → t σ H Q) : PA X es t' := ⟨fun pos pins s σ H Q I q => h.run pos pins s σ H Q I (w σ H Q q)⟩
theorem pi_wk {tg : Expr} {t t' : TI} (h : PI X tg e t) (w : ∀ σ H Q, t' σ H Q → t σ H Q) : PI X tg e t' := ⟨fun pins s σ H Q I q => h.run pins s σ H Q I (w σ H Q q)⟩
end

/-! ### forms -/
theorem ok_star {e : Expr} (h : okE e = true) (es : List Expr) (env : Env) : starEach (e :: es) env = (false, eval e env) :: starEach es env := by
  cases e <;> first | rfl | cases h
theorem ok_ix {e : Expr} (h : okE e = true) : PlainIx e := by
  intro o i
  cases e <;> first | rfl | cases h
theorem ok_fold {e : Expr} (h : okE e = true) (env : Env) (x : Value) : foldedSetIterable e env x = pure x := by
  cases e <;> first | rfl | cases h
theorem ok_swap {e : Expr} (h : okE e = true) (h2 : isLC e = false) (t : Option Expr) (n : Nat) (env : Env) : swapsWith e t n env = pure false := by
  cases e <;> first | rfl | exact Bool.noConfusion (show false = true from h) | exact Bool.noConfusion (show true = false from h2)
theorem ok_mark {e : Expr} (h : okE e = true) (op : CmpOp) : behindInMarks op e = false := by
  cases e <;> first | rfl | cases h
theorem plain_true {e : Expr} (h : plainE e = true) (env : Env) (whole : Sem Value) : isTrue e env whole = (do let v ← whole; standAt e.pos; holding [v] (truthy v)) := by
  cases e with
  | UnaryOp o x p => cases o <;> first | rfl | cases h
  | BoolOp _ _ _ => cases h
  | IfExp _ _ _ _ => cases h
  | Compare _ _ _ _ => cases h
  | _ => rfl

structure SndE (X : Cx) (W : L2.St → Wx) (e : Expr) (tu : Bool) (m : Den) : Prop where
  ok : okE e = true
  r : PE X e (tR X.kw W m.r)
  b : PT X e (tBb X.kw W m.b)
  w : ∀ op xs p, e = .BoolOp op xs p → PW X e (tBb X.kw W m.b)
  i : ∀ tg, tgOk tu tg = true → PI X tg e (tIi X.kw W m.i)
structure SndA (X : Cx) (W : L2.St → Wx) (es : List Expr) (m : M (List D)) : Prop where
  a : PA X es (tAa X.kw W m)
  pl : ∀ pos, (backTo pos (starEach es X.env)).any (·.1) = false
  hd : ∀ e r, es = e :: r → okE e = true

section
variable {X : Cx} {W : L2.St → Wx} {e : Expr}
/-- by the result taken up -/
theorem pe_v {m : M RD} (h : PE X e (tR X.kw W m)) : PE X e (tVv X.kw W fun l s => allocR (m l s)) := by
  refine pe_wk h fun σ H Q ⟨ρ, l, s, rs, rl, hp⟩ => ⟨ρ, l, s, rs, rl, ?_⟩
  have hp : Post X.kw (W σ) (rRV X.kw) ρ H Q (allocR (m l s)) := hp
  cases hm : m l s with
  | no => rw [hm] at hp; exact hp
  | ex x s1 => rw [hm] at hp; exact hp
  | ok a s1 =>
    rw [hm] at hp
    cases a with
    | d x => exact fun ρ1 H1 v e1 rs1 r1 => hp ρ1 H1 v e1 rs1 r1
    | l xs =>
      intro ρ1 H1 v e1 rs1 r1
      obtain ⟨a, vs, rfl, h1, h2, h3, h4⟩ := r1
      refine hp (ρ1 ++ [a]) H1 (.ref a) (e1.up h4) (rs1.up h1 h3 h2) ?_
      show RV _ _ _ _ _
      unfold RV
      exact ⟨a, rfl, by rw [← rs1.len, List.getElem?_append_right (Nat.le_refl _), Nat.sub_self]; rfl⟩
    | m kvs =>
      intro ρ1 H1 v e1 rs1 r1
      obtain ⟨a, rfl, h1, h3, h4⟩ := r1
      refine hp (ρ1 ++ [a]) H1 (.ref a) (e1.up h4) (rs1.upO h1 h3) ?_
      show RV _ _ _ _ _
      unfold RV
      exact ⟨a, rfl, by rw [← rs1.len, List.getElem?_append_right (Nat.le_refl _), Nat.sub_self]; rfl⟩
theorem SndE.v {tu : Bool} {m : Den} (h : SndE X W e tu m) : PE X e (tVv X.kw W m.v) := pe_v h.r
theorem pt_no : PT X e (tBb X.kw W noM) := ⟨fun _ _ _ _ _ _ ⟨_, _, _, _, _, h⟩ => h.elim⟩
theorem pe_no : PE X e (tR X.kw W noM) := ⟨fun _ _ _ _ _ _ ⟨_, _, _, _, _, h⟩ => h.elim⟩
theorem pi_no {tg : Expr} : PI X tg e (tIi X.kw W noM) := ⟨fun _ _ _ _ _ _ ⟨_, _, _, _, _, h⟩ => h.elim⟩
/-- a walk over a list that stands, a tuple -/
theorem it_list {K : Kw} {ρ : List Addr} {H : Hp} {p : Addr} {xs : List D} {src : Option (Nat × List D)}
    (h : ∀ (ρ1 : List Addr) (H1 : Hp) (s1 : Sto), Ext K ρ H ρ1 H1 → RS K ρ1 H1 s1 → srcOk src s1 → ∃ vs, SqL K H1 p vs ∧ RVs K ρ1 H1 xs vs) : ItOk K ρ H ⟨xs, src⟩ (Itl K p) := by
  intro ρ1 H1 s1 e rs so i
  obtain ⟨vs, h1, h2⟩ := h ρ1 H1 s1 e rs so
  refine ⟨fun d hd => ?_, fun hi => ⟨vs, h1, by rw [h2.length]; exact Nat.le_of_eq hi⟩⟩
  obtain ⟨v, h3, h4⟩ := h2.get hd
  refine ⟨⟨vs, v, h1, h3⟩, fun x H2 ⟨hy, hx⟩ => ?_⟩
  subst hy
  have := hx vs h1
  rw [h3] at this
  cases this
  exact ⟨.refl, rs, h4⟩
theorem it_tup {K : Kw} {ρ : List Addr} {H : Hp} {p : Addr} {xs : List D} {vs : List V} {src : Option (Nat × List D)} (h1 : SqT K H p vs) (h2 : RVs K ρ H xs vs) : ItOk K ρ H ⟨xs, src⟩ (Itt K p) := by
  intro ρ1 H1 s1 e rs so i
  have h1 := e.tup _ _ h1
  have h2 := RVs.mono e _ _ h2
  refine ⟨fun d hd => ?_, fun hi => ⟨vs, h1, by rw [h2.length]; exact Nat.le_of_eq hi⟩⟩
  obtain ⟨v, h3, h4⟩ := h2.get hd
  refine ⟨⟨vs, v, h1, h3⟩, fun x H2 ⟨hy, hx⟩ => ?_⟩
  subst hy
  have := hx vs h1
  rw [h3] at this
  cases this
  exact ⟨.refl, rs, h4⟩
theorem rv_key {K : Kw} {ρ : List Addr} {H : Hp} (k : Key) : RV K ρ H (keyD k) (kV k) := by
  cases k with
  | inl i => exact rv_int.mpr rfl
  | inr x => exact rv_str.mpr rfl
theorem it_keys {K : Kw} {ρ : List Addr} {H : Hp} {p : Addr} {o : Obj} {ks : List D} {vs : List (Key × V)} (h1 : H p = some (.frz o (.dK vs))) (h2 : vs.map (fun q => keyD q.1) = ks) : ItOk K ρ H ⟨ks, none⟩ (Itk p o vs) := by
  intro ρ1 H1 s1 e rs so i
  have h1 := e.fz _ _ _ h1
  subst h2
  refine ⟨fun d hd => ?_, fun hi => ⟨h1, ?_⟩⟩
  · have hd : (vs.map (fun q => keyD q.1))[i]? = some d := hd
    rw [List.getElem?_map] at hd
    obtain ⟨q, hq, rfl⟩ := Option.map_eq_some_iff.mp hd
    refine ⟨⟨h1, (List.getElem?_eq_some_iff.mp hq).1⟩, fun x H2 ⟨hy, k, v, h3, h4⟩ => ?_⟩
    subst hy
    rw [hq] at h3
    cases h3
    rw [h4]
    exact ⟨.refl, rs, rv_key k⟩
  · have hi : i = (vs.map (fun q => keyD q.1)).length := hi.symm
    rw [hi, List.length_map]; exact Nat.le_refl _
theorem it_str {K : Kw} {ρ : List Addr} {H : Hp} {z : Str} : ItOk K ρ H ⟨signsD z, none⟩ (L2.Its z) := by
  intro ρ1 H1 s1 e rs so i
  refine ⟨fun d hd => ?_, fun hi => ?_⟩
  · have hd' : (z.cps.toList.map fun c => D.str ⟨#[c]⟩)[i]? = some d := hd
    rw [List.getElem?_map] at hd'
    obtain ⟨c, hc, rfl⟩ := Option.map_eq_some_iff.mp hd'
    have hc' : z.cps[i]? = some c := by rw [← Array.getElem?_toList]; exact hc
    refine ⟨(Array.getElem?_eq_some_iff.mp hc').1, fun x H2 ⟨hy, c', h1, h2⟩ => ?_⟩
    subst hy
    rw [hc'] at h1
    cases h1
    exact ⟨.refl, rs, rv_str.mpr h2⟩
  · have : (signsD z).length = z.cps.size := by
      unfold signsD
      rw [List.length_map, Array.length_toList]
    show z.cps.size ≤ i
    rw [← this]
    exact Nat.le_of_eq hi
theorem upTo_length : ∀ (n : Nat) (lo : Int), (upTo lo n).length = n
  | 0, _ => rfl
  | n + 1, lo => by
    show (upTo (lo + 1) n).length + 1 = n + 1
    rw [upTo_length n]
theorem upTo_get : ∀ (n : Nat) (lo : Int) (i : Nat), i < n → (upTo lo n)[i]? = some (.int (lo + i))
  | 0, _, _, h => by omega
  | n + 1, lo, 0, _ => by
    show some (D.int lo) = _
    rw [show lo + ((0 : Nat) : Int) = lo by omega]
  | n + 1, lo, i + 1, h => by
    show (upTo (lo + 1) n)[i]? = _
    rw [upTo_get n (lo + 1) i (by omega)]
    rw [show lo + 1 + (i : Int) = lo + ((i + 1 : Nat) : Int) by omega]
theorem it_range {K : Kw} {ρ : List Addr} {H : Hp} {lo : Int} {n : Nat} : ItOk K ρ H ⟨upTo lo n, none⟩ (Itr lo n) := by
  intro ρ1 H1 s1 e rs so i
  refine ⟨fun d hd => ?_, fun hi => ?_⟩
  · have hlt : i < n := by
      have := (List.getElem?_eq_some_iff.mp hd).1
      rw [upTo_length] at this
      exact this
    rw [show (Nv.Its.mk (upTo lo n) none).ds = upTo lo n from rfl, upTo_get n lo i hlt] at hd
    cases hd
    refine ⟨hlt, fun x H2 ⟨hy, hx⟩ => ?_⟩
    subst hy
    exact ⟨.refl, rs, rv_int.mpr hx⟩
  · have h2 : (upTo lo n).length = i := hi
    rw [upTo_length] at h2
    exact Nat.le_of_eq h2
theorem steps_length : ∀ (n : Nat) (lo c : Int), (stepsOf lo c n).length = n
  | 0, _, _ => rfl
  | n + 1, lo, c => by unfold stepsOf; rw [List.length_cons, steps_length n]
theorem steps_get : ∀ (n : Nat) (lo c : Int) (i : Nat), i < n → (stepsOf lo c n)[i]? = some (.int (lo + (i : Nat) * c))
  | 0, _, _, _, h => absurd h (Nat.not_lt_zero _)
  | n + 1, lo, c, 0, _ => by
    show some (Nv.D.int lo) = _
    rw [show lo + ((0 : Nat) : Int) * c = lo by simp]
  | n + 1, lo, c, i + 1, h => by
    show (stepsOf (lo + c) c n)[i]? = _
    rw [steps_get n (lo + c) c i (by omega)]
    rw [show lo + c + (i : Int) * c = lo + ((i + 1 : Nat) : Int) * c by
      rw [Int.natCast_add, Int.add_mul]
      simp
      omega]
theorem it_steps {K : Kw} {ρ : List Addr} {H : Hp} {lo c : Int} {n : Nat} : ItOk K ρ H ⟨stepsOf lo c n, none⟩ (Itc lo c n) := by
  intro ρ1 H1 s1 e rs so i
  refine ⟨fun d hd => ?_, fun hi => ?_⟩
  · have hlt : i < n := by
      have := (List.getElem?_eq_some_iff.mp hd).1
      rw [steps_length] at this
      exact this
    rw [show (Nv.Its.mk (stepsOf lo c n) none).ds = stepsOf lo c n from rfl, steps_get n lo c i hlt] at hd
    cases hd
    refine ⟨hlt, fun x H2 ⟨hy, hx⟩ => ?_⟩
    subst hy
    exact ⟨.refl, rs, rv_int.mpr hx⟩
  · have h2 : (stepsOf lo c n).length = i := hi
    rw [steps_length] at h2
    exact Nat.le_of_eq h2
/-- what stays of a list that a value or a fresh result reads -/
theorem src_list {K : Kw} {ρ : List Addr} {H H0 : Hp} {s : Sto} {a : RD} {x : V} {xs : List D} (rs : RS K ρ H s) (r : RR K H0 ρ H a x) (h : asL s a = some xs) :
    ∃ p, x = .ref p ∧ ∀ (ρ1 : List Addr) (H1 : Hp) (s1 : Sto), Ext K ρ H ρ1 H1 → RS K ρ1 H1 s1 → srcOk (srcR s a) s1 → ∃ vs, SqL K H1 p vs ∧ RVs K ρ1 H1 xs vs := by
  unfold asL at h
  split at h
  · cases h
    obtain ⟨p, vs, e1, e2, e3, e4, _⟩ := r
    exact ⟨p, e1, fun ρ1 H1 s1 e rs1 _ => ⟨vs, SqL.of (e.oth _ _ e2 e4), RVs.mono e _ _ e3⟩⟩
  · cases h
    unfold RR RV at r
    obtain ⟨p, vs, e1, e2, e3⟩ := r
    exact ⟨p, e1, fun ρ1 H1 s1 e rs1 _ => ⟨vs, (e.fzl _ _ e2).sql, RVs.mono e _ _ e3⟩⟩
  · rename_i i
    unfold RR RV at r
    obtain ⟨p, e1, e2⟩ := r
    refine ⟨p, e1, fun ρ1 H1 s1 e rs1 so => ?_⟩
    have so : srcOk (Option.map (fun xs => (i, xs)) (lstAt s i)) s1 := so
    rw [h] at so
    have so' : s1[i]? = some (.lst xs) := so
    obtain ⟨q, vs, h1, h2, h3⟩ := rs1.lstAt so'
    rw [e.pre i p e2] at h1
    cases h1
    exact ⟨vs, SqL.of h2, h3⟩
  · cases h
/-- the walk of a value -/
theorem pi_of {m : M RD} {tg : Expr} (h : PE X e (tR X.kw W m)) : PI X tg e (tIi X.kw W fun l s => (m l s).bind fun a s1 => ofO (itsR s1 a) s1) := by
  refine ⟨fun pins s σ H R I ⟨ρ, l, st, rs, rl, hp⟩ => ?_⟩
  have hp : Post X.kw (W σ) (rIt X.kw) ρ H R ((m l st).bind fun a s1 => ofO (itsR s1 a) s1) := hp
  cases hm : m l st with
  | no => rw [hm] at hp; exact hp.elim
  | ex x s1 =>
    rw [hm] at hp
    exact (pi_list (tg := tg) h).run pins s σ H R I ⟨ρ, l, st, rs, rl, by rw [hm]; exact hp⟩
  | ok a s1 =>
    rw [hm] at hp
    have hp : Post X.kw (W σ) (rIt X.kw) ρ H R (ofO (itsR s1 a) s1) := hp
    have lst : ∀ xs, asL s1 a = some xs → itsR s1 a = some ⟨xs, srcR s1 a⟩ → wpAny (model X.prog X.w) X.A (eval e X.env) (fun v s1 => wpAny (model X.prog X.w) X.A (pyIter v) (PIE X pins σ tg R) X.xe s1) X.xe s := by
      intro xs h1 h2
      refine (pi_list (tg := tg) h).run pins s σ H R I ⟨ρ, l, st, rs, rl, ?_⟩
      rw [hm]
      intro ρ1 H1 v e1 rs1 r1
      rw [h2] at hp
      obtain ⟨p, rfl, h4⟩ := src_list rs1 r1 h1
      obtain ⟨q, vs, h5, h6, _⟩ := asL_ok rs1 r1 h1
      cases h5
      exact ⟨p, rfl, ⟨vs, h6⟩, hp ρ1 H1 _ e1 rs1 (it_list h4)⟩
    cases a with
    | l xs => exact lst xs rfl rfl
    | m kvs => exact hp.elim
    | d x =>
      cases x with
      | ld ks ds =>
        refine (pi_keys (tg := tg) h).run pins s σ H R I ⟨ρ, l, st, rs, rl, ?_⟩
        rw [hm]
        intro ρ1 H1 v e1 rs1 r1
        have r1 : RV X.kw ρ1 H1 (.ld ks ds) v := r1
        unfold RV at r1
        obtain ⟨p, o, vs, rfl, h1, h2, h3⟩ := r1
        exact ⟨p, o, rfl, .inl ⟨vs, h1, hp ρ1 H1 _ e1 rs1 (it_keys h1 h2)⟩⟩
      | lf xs => exact lst xs rfl rfl
      | obj i =>
        unfold itsR at hp
        simp only at hp
        split at hp
        · rename_i ys ey
          exact lst ys (by show lstAt s1 i = _; unfold lstAt; rw [ey]) (by unfold itsR srcR lstAt; simp only [ey]; rfl)
        · exact hp.elim
      | tup xs =>
        refine (pi_tup (tg := tg) h).run pins s σ H R I ⟨ρ, l, st, rs, rl, ?_⟩
        rw [hm]
        intro ρ1 H1 v e1 rs1 r1
        obtain ⟨p, vs, rfl, h1, h2⟩ := rr_tup r1
        exact ⟨p, rfl, ⟨vs, h1⟩, hp ρ1 H1 _ e1 rs1 (it_tup h1 h2)⟩
      | str z =>
        refine (pi_str (tg := tg) h).run pins s σ H R I ⟨ρ, l, st, rs, rl, ?_⟩
        rw [hm]
        intro ρ1 H1 v e1 rs1 r1
        exact ⟨z, rr_str r1, hp ρ1 H1 _ e1 rs1 it_str⟩
      | non => exact hp.elim
      | bl _ => exact hp.elim
      | int _ => exact hp.elim
theorem pt_of {m : M RD} (hp : plainE e = true) (h : PE X e (tR X.kw W m)) : PT X e (tBb X.kw W fun l s => (m l s).bind fun a s1 => ofO (truthR s1 a) s1) := by
  refine pt_wk (pt_truth h (plain_true hp X.env)) fun σ H Q ⟨ρ, l, s, rs, rl, h⟩ => ⟨ρ, l, s, rs, rl, ?_⟩
  refine h.bind bkB fun a s1 ρ1 H1 v e1 rs1 r1 h1 => ?_
  cases ht : truthR s1 a with
  | none => rw [ht] at h1; exact h1.elim
  | some t =>
    rw [ht] at h1
    exact ⟨t, truth_ok rs1 r1 ht, h1 ρ1 H1 t .refl rs1 rfl⟩
theorem snd_mkR {m : M RD} (ok : okE e = true) (hp : plainE e = true) (h : PE X e (tR X.kw W m)) : SndE X W e false (mkR m) :=
  ⟨ok, h, pt_of hp h, fun op xs p q => (by subst q; cases hp), fun tg _ => pi_of h⟩
theorem snd_mkQ {m : M RD} (ok : okE e = true) (hp : ∀ op xs p, e ≠ .BoolOp op xs p) (h : PE X e (tR X.kw W m)) : SndE X W e false (mkQ m) :=
  ⟨ok, h, pt_no, fun op xs p q => absurd q (hp op xs p), fun tg _ => pi_of h⟩
theorem snd_mkB {r : M RD} {b : M Bool} (ok : okE e = true) (h : PE X e (tR X.kw W r)) (hb : PT X e (tBb X.kw W b)) (w : ∀ op xs p, e = .BoolOp op xs p → PW X e (tBb X.kw W b)) : SndE X W e false (mkB r b) :=
  ⟨ok, h, hb, w, fun tg _ => pi_no⟩
theorem snd_mkI {m : M Nv.Its} {tu : Bool} (ok : okE e = true) (hp : ∀ op xs p, e ≠ .BoolOp op xs p) (h : ∀ tg, tgOk tu tg = true → PI X tg e (tIi X.kw W m)) : SndE X W e tu (mkI m) :=
  ⟨ok, pe_no, pt_no, fun op xs p q => absurd q (hp op xs p), h⟩
end

/-! ### the contexts -/
/-- a function's promise by the interpreter's run -/
def spOf (K : Kw) (mg : Str → Option Value) (g : List D → Sto → Res RD) : Sp := fun vs H Q E => ∃ ρ s ds, RS K ρ H s ∧ RVs K ρ H ds vs ∧ Post K (wE mg E) (rRR K) ρ H Q (g ds s)
/-- the facts of a class of exceptions of the text's own -/
structure ExcF (K : PySem.W.Frag) (mg : Str → Option Value) (n : Str) (C : Addr) : Prop where
  mg_ : mg n = some (.ref C)
  keep : PySem.W.keepIn K (.ref C) = true
  base : ∃ B newId initId bmB, ExcBaseFacts B newId initId bmB ∧ PySem.W.excIn K C bmB newId = true
  sub : PySem.W.subIn K (.ref C) (.type "BaseException") = some true
  ty : PySem.W.typeIn K (.ref C) = some (.type "type")
  is_ : ExcC K C
/-- what isinstance tells of an exception of class n -/
def IsF (K : PySem.W.Frag) (mg : Str → Option Value) (n x : Str) (b : Bool) : Prop := ∃ (C : Addr) (D : Value) (v : V), mg n = some (.ref C) ∧ RelV v D ∧ (∀ u, RelV v u → u = D) ∧ (mg x = some D ∨ (mg x = none ∧ bootBuiltins x = some D ∧ x ≠ "__name__")) ∧ PySem.W.kitOne K (.ref C) D = some b
/-- a dict of the top: texts, to whole numbers -/
def KdF (K : PySem.W.Frag) (w : World) (mg : Str → Option Value) (x : Str) (kvs : List (Str × Int)) : Prop :=
  ∃ (d : Addr) (es : Array DictEntry) (n : Nat), mg x = some (.ref d) ∧ KDict K w d es n ∧ ∀ z, match kvs.lookup z with
    | some i => ∃ t, PySem.W.nsIn K d z = some (some (.int i t))
    | none => PySem.W.nsIn K d z = some none
theorem KdF.is {K : PySem.W.Frag} {w : World} {mg : Str → Option Value} {x : Str} {kvs : List (Str × Int)} (h : KdF K w mg x kvs) : ∃ (d : Addr) (es : Array DictEntry) (n : Nat), mg x = some (.ref d) ∧ KDict K w d es n ∧
    (∀ z, ∃ r, PySem.W.nsIn K d z = some r ∧ r.isSome = (kvs.lookup z).isSome) ∧ ∀ z i, kvs.lookup z = some i → KDct K w d z (.int i) := by
  obtain ⟨d, es, n, h1, h2, h3⟩ := h
  refine ⟨d, es, n, h1, h2, fun z => ?_, fun z i e => ?_⟩
  · have := h3 z
    cases q : kvs.lookup z with
    | none => rw [q] at this; exact ⟨none, this, rfl⟩
    | some i =>
      rw [q] at this
      obtain ⟨t, e⟩ := this
      exact ⟨_, e, rfl⟩
  · have := h3 z
    rw [e] at this
    obtain ⟨t, e⟩ := this
    exact ⟨es, n, _, h2.at_, h2.lit, e, t, rfl⟩
structure Good (T : Tab) (cf : Nat → List D → Sto → Res RD) (k : Nat) (N : List Str) (sc : Scope) (X : Cx) (W : WX) : Prop where
  tk : Takes X W
  exc : ∀ n : Str, T.excs.contains n = true → ∃ C, ExcF X.K X.mg n C
  exm : ∀ n x : Str, T.exm.contains (n, x) = true → ∃ C D, X.mg n = some (.ref C) ∧ X.mg x = some (.ref D) ∧ PySem.W.exmOne X.K (.ref C) (.ref D) = some true ∧ ExcF X.K X.mg n C
  isx : ∀ (n x : Str) (b : Bool), T.isx.contains (n, x, b) = true → IsF X.K X.mg n x b
  nm : X.N = N
  nd : N.Nodup
  sc : X.env.scope = sc
  calm : X.calm = true
  room : Room k X.A
  blt : ∀ x : Str, T.blts.contains x = true → X.mg x = none
  con : ∀ (j : Nat) (x : Str) (d : D), T.cons[j]? = some (x, d) → ∃ u v, X.mg x = some u ∧ RelV v u ∧ ∀ ρ H, RV X.kw ρ H d v
  kds : ∀ (j : Nat) (x : Str) (kvs : List (Str × Int)), T.kds[j]? = some (x, kvs) → KdF X.K X.w X.mg x kvs
  fns : ∀ (i : Nat) (F : Fn), T.fns[i]? = some F → ∃ f fd, X.mg F.name = some (.ref f) ∧ PySem.W.keepIn X.K (.ref f) = true ∧ Binds X.K fd F.ps [] ∧ FnOk X.prog X.w X.K X.mg X.base (L2.CX X.prog X.w) k f fd F.ps (spOf X.kw X.mg (cf i))
section
variable {T : Tab} {cf : Nat → List D → Sto → Res RD} {k : Nat} {N : List Str} {sc : Scope} {X : Cx} {W : WX}
theorem Good.hu (g : Good T cf k N sc X W) : X.A.units + 65 < cLine := by
  have := g.room.un
  omega
theorem vis_of {x : Str} (h : visB sc x = true) : Vis sc x := by
  unfold visB at h
  split at h
  · rename_i q; exact .inl q
  · rename_i q; exact .inr (.inl q)
  · rename_i q; exact .inr (.inr q)
  · cases h
theorem Good.gl (g : Good T cf k N sc X W) {x : Str} (h : glB sc x = true) : Gl X x ∧ (x == ("__debug__" : Str)) = false ∧ x ≠ ("__name__" : Str) := by
  unfold glB at h
  simp only [Bool.and_eq_true, decide_eq_true_eq, Bool.not_eq_true'] at h
  refine ⟨?_, h.1.2, fun e => ?_⟩
  · show X.env.scope.names.lookup x = _
    rw [g.sc]; exact h.1.1
  · have := h.2
    rw [e] at this
    simp at this
theorem Good.blk (g : Good T cf k N sc X W) (s : Shared) (H : Hp) (scope : Scope) (cl : List (Str × Addr)) (C : Addr) (fp : List Addr) : Good T cf k N (relS scope sc) (X.blk s H scope (compEnvC scope cl C X.env) fp) WF :=
  ⟨fun _ _ ⟨_, _, _, _, _, _, _, _, _, _, _, _, _, _, _, _, z⟩ => z.elim, g.exc, g.exm, g.isx, g.nm, g.nd, by show relabel scope X.env = _; rw [← g.sc]; rfl, g.calm, g.room, g.blt, g.con, g.kds, g.fns⟩
/-- a single argument -/
theorem pa_r {W : L2.St → Wx} {e : Expr} {m : M RD} (ok : okE e = true) (h : PE X e (tR X.kw W m)) : PA X [e] (tCons (tR X.kw W m) tNil) := pa_cons h pa_nil (ok_star ok [] X.env)
theorem b1_boot (f : B1) : bootBuiltins (f.name : Str) = some f.val := by cases f <;> decide +kernel
theorem b2_boot (f : B2) : bootBuiltins (f.name : Str) = some f.val := by cases f <;> decide +kernel
theorem ty_boot (t : Ty) : bootBuiltins (t.name : Str) = some (.type t.name) := by cases t <;> decide +kernel
/-- f(e, ..), f a built-in function or type -/
theorem pe_callV {v : Value} {r : List V → Hp → VK → Prop} {x : Str} {e : Expr} {es : List Expr} {t : TA} {p pos : Pos} (hv2 : (∃ id, v = .builtin id) ∨ ∃ n, v = .type n) (hc : CallR X v r) (hg : Gl X x) (hm : X.mg x = none) (hv : bootBuiltins x = some v) (ha : PA X (e :: es) t)
    (hn : x ≠ ("__name__" : Str)) (hdb : (x == ("__debug__" : Str)) = false) (he : starEach (e :: es) X.env = (false, eval e X.env) :: starEach es X.env) (hpl : (backTo pos (starEach es X.env)).any (·.1) = false) :
    PE X (.Call (.Name x p) (e :: es) [] pos) (tCB r t) := by
  rcases hv2 with ⟨id, rfl⟩ | ⟨n, rfl⟩
  · exact pe_callB hc hg hm hv ha hn hdb he hpl
  · exact pe_callTy hc hg hm hv ha hn hdb he hpl
theorem b1_kind (f : B1) : (∃ id, f.val = .builtin id) ∨ ∃ n, f.val = .type n := by cases f <;> first | exact .inl ⟨_, rfl⟩ | exact .inr ⟨_, rfl⟩
theorem b2_kind (f : B2) : (∃ id, f.val = .builtin id) ∨ ∃ n, f.val = .type n := by cases f <;> first | exact .inl ⟨_, rfl⟩ | exact .inr ⟨_, rfl⟩
end
end Nv

set_option Elab.async false
set_option linter.all false
set_option maxRecDepth 100000
set_option autoImplicit false
set_option maxHeartbeats 4000000
/-! NvSet: set(list of texts), set(list of tuples of keys), both by one loop. -/
namespace Nv
open PySem PySem.Spec PyProof.Rows L2

/-- a set as it is made -/
def bare (w : World) : Obj := { cls := .type "set", dict := none, data := .set #[] 0 (.fresh 0 0 (!w.params.followText "set-order")) }
/-- what adding wants and does; Is: the value is the key, St: the set at the address has the rows -/
structure Adds (P : Program) (w : World) {κ : Type} (Is : Heap → κ → Value → Prop) (St : Heap → Addr → List (Value × κ) → Prop) : Prop where
  mono : ∀ {h h' : Heap} {k : κ} {v : Value}, Is h k v → (∀ b o, h.get? b = some o → h'.get? b = some o) → Is h' k v
  stay : ∀ {h h' : Heap} {a : Addr} {L : List (Value × κ)}, St h a L → (∀ o, h.get? a = some o → h'.get? a = some o) → St h' a L
  nil : ∀ {h : Heap} {a : Addr}, h.get? a = some (bare w) → St h a []
  add : ∀ {A : Around} {E : Value → Shared → Prop} {s : Shared} {a : Addr} {L : List (Value × κ)} {v : Value} {k : κ} {Q : Bool → Shared → Prop}, A.units + 60 < cLine → St s.heap a L → (∀ p ∈ L, Is s.heap p.2 p.1) → Is s.heap k v → L.length + 1 < 77 →
    (∀ r h' tk L', s.toks ≤ tk → Heap.SameBut a s.heap h' → St h' a L' → (k ∈ L.map (·.2) → L' = L) → (k ∉ L.map (·.2) → L'.Perm ((v, k) :: L)) → Q r { s with heap := h', toks := tk }) →
    wpAny (model P w) A (setAdd a v) Q E s
/-- the rows that come of the first i items -/
structure From {κ : Type} (ks : List (Value × κ)) (i : Nat) (L : List (Value × κ)) : Prop where
  sub : ∀ p ∈ L, p ∈ ks
  all : ∀ p ∈ ks.take i, p.2 ∈ L.map (·.2)
  nd : (L.map (·.2)).Nodup
  len : L.length ≤ i
section
variable {κ : Type} {ks L L' : List (Value × κ)} {i : Nat} {x : Value × κ}
theorem From.nil : From ks 0 [] := ⟨fun p h => (by cases h), fun p h => (by simp at h), List.nodup_nil, Nat.le_refl _⟩
theorem take_one (h : ks[i]? = some x) : ks.take (i + 1) = ks.take i ++ [x] := by
  rw [List.take_add_one, h]; rfl
theorem From.old (g : From ks i L) (h : ks[i]? = some x) (m : x.2 ∈ L.map (·.2)) : From ks (i + 1) L where
  sub := g.sub
  all := fun p hp => by
    rw [take_one h, List.mem_append, List.mem_singleton] at hp
    rcases hp with hp | hp
    · exact g.all p hp
    · rw [hp]; exact m
  nd := g.nd
  len := Nat.le_succ_of_le g.len
theorem From.one (g : From ks i L) (h : ks[i]? = some x) (m : x.2 ∉ L.map (·.2)) (pm : L'.Perm (x :: L)) : From ks (i + 1) L' where
  sub := fun p hp => by
    rcases List.mem_cons.mp (pm.mem_iff.mp hp) with e | z
    · rw [e]; exact List.mem_of_getElem? h
    · exact g.sub p z
  all := fun p hp => by
    rw [(pm.map (·.2)).mem_iff, List.map_cons]
    rw [take_one h, List.mem_append, List.mem_singleton] at hp
    rcases hp with hp | hp
    · exact .tail _ (g.all p hp)
    · rw [hp]; exact .head _
  nd := (pm.map (·.2)).nodup_iff.mpr (List.nodup_cons.mpr ⟨m, g.nd⟩)
  len := by have := g.len; rw [pm.length_eq, List.length_cons]; omega
end
section
variable {P : Program} {w : World} {A : Around} {E : Value → Shared → Prop} {s : Shared} {κ : Type} {Is : Heap → κ → Value → Prop} {St : Heap → Addr → List (Value × κ) → Prop}
/-- the loop of set.update -/
theorem upd_loop (D : Adds P w Is St) {I : Addr} {fp wr : List Addr} {G : Array GenState → Array GenState → Prop} {n : Nat} {Pv : Nat → Value → Prop} {Wt : Nat → Shared → Prop} {R : Result → Shared → Prop}
    (W : WalksS P w A.in1 I fp wr G n Pv Wt) (S : Addr) (nf : S ∉ fp) (ks : List (Value × κ)) (hn : n = ks.length) (few : ks.length < 77) (hval : ∀ i v, Pv i v → ∃ p, ks[i]? = some p ∧ v = p.1)
    (h0 : Heap) (hk : ∀ p ∈ ks, Is h0 p.2 p.1) (hS0 : h0.get? S = none) (hw0 : ∀ b ∈ wr, h0.get? b = none) (hu : A.in1.units + 60 < cLine) :
    ∀ (m i : Nat) (s : Shared), n - i = m → i ≤ n → Wt i s → (∀ b o, h0.get? b = some o → s.heap.get? b = some o) → (∃ L, St s.heap S L ∧ From ks i L) →
      (∀ s' L, Moved (S :: wr) G s s' → St s'.heap S L → From ks n L → (∀ b o, h0.get? b = some o → s'.heap.get? b = some o) → R (.ok (.ret .none)) s') →
      codeAny (model P w) A (.builtin "set.update.loop" ⟨[.ref S, .ref I], []⟩) R s := by
  have nw : S ∉ wr := fun h => nf (W.sub _ h)
  have up : ∀ b ∈ wr, b ∈ S :: wr := fun b hb => .tail _ hb
  have still : ∀ {u u' : Shared}, Moved wr G u u' → (∀ b o, h0.get? b = some o → u.heap.get? b = some o) → ∀ b o, h0.get? b = some o → u'.heap.get? b = some o := fun hm q b o e =>
    hm.heap b o (fun hb => by rw [hw0 b hb] at e; cases e) (q b o e)
  intro m
  induction m with
  | zero =>
    intro i s hm0 hi hst kp ⟨L, hL, g⟩ hR
    obtain rfl : i = n := by omega
    refine codeAny_builtin F.entry_set_update_loop ?_
    rw [Around.under_plainId F.plain_set_update_loop _]
    show wpAny _ A.in1 (pyNext (.ref I) >>= fun _ => _) _ _ s
    refine wpAny_bind (W.done s _ _ hst fun s' mv => ?_)
    show wpAny _ A.in1 (ret Value.none) _ _ s'
    exact wpAny_pure (hR s' L (mv.mono up) (D.stay hL fun o e => mv.heap S o nw e) g (still mv kp))
  | succ m ih =>
    intro i s hm0 hi hst kp ⟨L, hL, g⟩ hR
    have lt : i < n := by omega
    refine codeAny_builtin F.entry_set_update_loop ?_
    rw [Around.under_plainId F.plain_set_update_loop _]
    show wpAny _ A.in1 (pyNext (.ref I) >>= fun _ => _) _ _ s
    refine wpAny_bind (W.item i s _ _ lt hst fun v s' hP hst' mv => ?_)
    obtain ⟨p, hp, rfl⟩ := hval i v hP
    have kp' := still mv kp
    show wpAny _ A.in1 (holding [p.1] (setAdd S p.1) >>= fun _ => _) _ _ s'
    refine wpAny_bind (wpAny_holding (D.add (k := p.2) hu (D.stay hL fun o e => mv.heap S o nw e) (fun q hq => D.mono (hk q (g.sub q hq)) kp') (D.mono (hk p (List.mem_of_getElem? hp)) kp') (by have := g.len; omega) fun b h' tk L' htk sb hL' c1 c2 => ?_))
    have g' : From ks (i + 1) L' := by
      by_cases c : p.2 ∈ L.map (·.2)
      · rw [c1 c]; exact g.old hp c
      · exact g.one hp c (c2 c)
    have kp2 : ∀ b o, h0.get? b = some o → h'.get? b = some o := fun b o e => (sb.2 b fun z => by rw [z, hS0] at e; cases e).trans (kp' b o e)
    refine wpAny_pure ⟨plainId_quiet F.plain_set_update_loop _, ih (i + 1) _ (by omega) lt (W.frame _ s' _ _ hst' htk fun b hb o e => ?_) kp2 ⟨L', hL', g'⟩ fun s2 L2 mv2 a1 a2 a3 => ?_⟩
    · rw [sb.2 b fun z => nf (by rw [← z]; exact hb)]; exact e
    · refine hR s2 L2 (Moved.trans W.gtrans ((mv.mono up).then_heap htk fun b o hb e => ?_) mv2) a1 a2 a3
      rw [sb.2 b fun z => hb (by rw [z]; exact .head _)]; exact e
/-- set(xs), xs a list -/
theorem call_setA (D : Adds P w Is St) {l : Addr} {its : Array Value} (ks : List (Value × κ)) {Q : Value → Shared → Prop} (hh : A.handled = none) (hl : s.heap.IsList l its) (hit : its.toList = ks.map (·.1))
    (hk : ∀ p ∈ ks, Is s.heap p.2 p.1) (few : ks.length < 77) (hu : A.units + 63 < cLine)
    (h : ∀ (h' : Heap) (tk : Nat) L, St h' s.heap.objs.size L → From ks ks.length L → (∀ b o, s.heap.get? b = some o → h'.get? b = some o) → Q (.ref s.heap.objs.size) { s with heap := h', toks := tk }) :
    wpAny (model P w) A (call (.type "set") [.ref l]) Q E s := by
  have hz : its.size = ks.length := by
    have q := congrArg List.length hit
    rwa [Array.length_toList, List.length_map] at q
  obtain ⟨c, tl, hmro⟩ := F.called_set.mro
  have m1 := F.called_set.made
  have m2 := F.called_set.sub
  refine wpAny_call (codeAny_of_tree ?_)
  show wpAny _ _ (callAny (.type "set") _) _ _ _
  refine wpAny_pure ⟨Code.quiet_builtin _ (by decide +kernel), codeAny_builtin F.entry_type_call ?_⟩
  rw [Around.under_plain (weight_type_call_type "set" [.ref l] []) rfl]
  have m3 := F.called_set.notType
  have m4 := F.called_set.canCreate
  have m5 := F.typeCall_set_1 (.ref l)
  repeat (any_goals (first | assumption | wp_step))
  refine codeAny_mono (code_set_led1 (.ref l) (E := E) (Q₁ := fun u s1 => u = .ref s.heap.objs.size ∧ s1 = { s with heap := s.heap.push (bare w) }) ⟨rfl, rfl⟩) fun r s1 hr => ?_
  cases r with
  | error e => exact hr
  | ok fl =>
    cases fl with
    | ret u =>
      obtain ⟨rfl, rfl⟩ := hr
      have b1 : (s.heap.push (bare w)).get? s.heap.objs.size = some (bare w) := Heap.get?_push_size _ rfl
      have b2 : Shared.TypeIs { s with heap := s.heap.push (bare w) } (.ref s.heap.objs.size) "set" := ⟨_, b1, rfl⟩
      have m6 := F.called_set.init.lookup
      have m7 := F.called_set.init.bind (.ref s.heap.objs.size)
      repeat (any_goals (first | assumption | wp_step))
      refine codeAny_mono (codeAny_call_builtin (R := wants (fun r s2 => r = .none ∧ ∃ h' tk L, s2 = { s with heap := h', toks := tk } ∧ St h' s.heap.objs.size L ∧ From ks ks.length L ∧
          (∀ b o, s.heap.get? b = some o → h'.get? b = some o)) E) F.called_set.init.plain F.entry_set_init (check_set_init_1 b2 ?_)) fun r2 s2 hr2 => ?_
      · obtain ⟨o, ho, hc, n, hd⟩ := hl
        obtain ⟨oc, od, oa, os⟩ := o
        simp only at hc hd
        subst hc; subst hd
        have ho1 : (s.heap.push (bare w)).get? l = some { cls := .type "list", dict := od, data := .seq its n, slots := os } := Heap.get?_push_of_some _ ho
        have n1 := F.sub_list_set
        have n2 := F.sub_list_frozenset
        have n3 : (Value.type "list" == Value.type "dict") = false := by decide
        have hl1 : (s.heap.push (bare w)).IsList l its := ⟨_, ho1, rfl, n, rfl⟩
        unfold Builtin.«set.__init__» noKeywords Builtin.Frozenset.updateFrom
        generalize hPI : pyIter = PI
        wp_walk
        subst hPI
        refine wpAny_pyIter_list hl1 (wpAny_bind (wpAny_runValue ?_))
        have lt : l < s.heap.objs.size := Heap.lt_size ho
        have h3 : A.in1.in1.in1.handled = none := by simp [hh]
        have sz : (s.heap.push (bare w)).objs.size = s.heap.objs.size + 1 := Heap.size_push ..
        have ne : l ≠ (s.heap.push (bare w)).objs.size := by rw [sz]; exact Nat.ne_of_lt (Nat.lt_succ_of_lt lt)
        have nf : s.heap.objs.size ∉ [(s.heap.push (bare w)).objs.size, l] := by
          rw [sz, List.mem_cons, List.mem_singleton, not_or]
          exact ⟨Nat.ne_of_lt (Nat.lt_succ_self _), Nat.ne_of_gt lt⟩
        have hval : ∀ (i : Nat) (v : Value), its[i]? = some v → ∃ p, ks[i]? = some p ∧ v = p.1 := fun i v hv => by
          have q : its.toList[i]? = some v := by rw [Array.getElem?_toList]; exact hv
          rw [hit, List.getElem?_map] at q
          obtain ⟨p, hp, e⟩ := Option.map_eq_some_iff.mp q
          exact ⟨p, hp, e.symm⟩
        have off : ∀ b, s.heap.objs.size ≤ b → s.heap.get? b = none := fun b hb => by
          cases q : s.heap.get? b with
          | none => rfl
          | some o => exact absurd (Nat.lt_of_lt_of_le (Heap.lt_size q) hb) (Nat.lt_irrefl _)
        refine upd_loop D ((Walks.list h3 _ l ne its).toS) s.heap.objs.size nf ks hz few hval s.heap hk (off _ (Nat.le_refl _)) (fun b hb => off b ?_) hu (its.size - 0) 0 _ (by omega) (Nat.zero_le _)
          ⟨⟨_, Heap.get?_push_size _ rfl, rfl, rfl⟩, hl1.push _⟩ (fun b o e => Heap.get?_push_of_some _ (Heap.get?_push_of_some _ e)) ⟨[], D.nil (Heap.get?_push_of_some _ b1), From.nil⟩ fun s' L mv hL g kp => ?_
        · rw [List.mem_singleton.mp hb, sz]; exact Nat.le_succ _
        · obtain ⟨h', g2, d', tk', os'⟩ := s'
          obtain rfl : g2 = s.gens := mv.gens
          obtain rfl : d' = s.drawn := mv.drawn
          obtain rfl : os' = s.os := mv.os
          show wpAny _ _ _ _ _ _
          refine wpAny_pure ?_
          show wpAny _ _ (ret Value.none) _ _ _
          rw [hz] at g
          exact wpAny_pure ⟨rfl, h', tk', L, rfl, hL, g, kp⟩
      · cases r2 with
        | error e => exact hr2
        | ok f2 =>
          cases f2 with
          | ret r =>
            obtain ⟨rfl, h', tk, L, rfl, hL, g, kp⟩ := hr2
            repeat (any_goals (first | assumption | wp_step))
            exact h _ _ _ hL g kp
          | _ => exact hr2.elim
    | _ => exact hr.elim
end
end Nv

set_option Elab.async false
set_option linter.all false
set_option maxRecDepth 100000
set_option autoImplicit false
set_option maxHeartbeats 4000000
/-! NvSetS: set(list of texts), sorted(set of texts). -/
namespace Nv
open PySem PySem.Spec PyProof.Rows L2

theorem perm_of_few {α : Type} [DecidableEq α] : ∀ (l ys : List α), l.Nodup → (∀ x ∈ l, x ∈ ys) → ys.length ≤ l.length → ys.Perm l
  | [], ys, _, _, h => by
    have : ys = [] := List.eq_nil_of_length_eq_zero (by simpa using h)
    rw [this]
  | x :: l, ys, nd, sub, h => by
    obtain ⟨n1, n2⟩ := List.nodup_cons.mp nd
    have hx := sub x (.head _)
    have pm := List.perm_cons_erase hx
    have hl := pm.length_eq
    rw [List.length_cons] at hl h
    refine pm.trans (.cons x (perm_of_few l (ys.erase x) n2 (fun y hy => ?_) (by omega)))
    have h1 := sub y (.tail _ hy)
    have h2 := pm.mem_iff.mp h1
    rcases List.mem_cons.mp h2 with e | z
    · rw [e] at hy; exact absurd hy n1
    · exact z
def TSt (P : Program) (w : World) (h : Heap) (a : Addr) (L : List (Value × Str)) : Prop :=
  ∃ D : Froz.SD, h.get? a = some (Froz.sObj "set" D) ∧ Froz.TxOk P w D (L.map (·.2)) ∧ Ris D.2.2.place.toList ∧ (w.params.followText "set-order" = true ∨ D.2.2.led = true)
def IsS (_ : Heap) (k : Str) (v : Value) : Prop := ∃ t, v = .str k t
section
variable {P : Program} {w : World} {A : Around} {E : Value → Shared → Prop} {s : Shared}
theorem tail_ris {ep : Nat} {es : Array (Int × Value)} {t : SetTable} {wd : Bool} (r : Ris t.place.toList) : Ris (Froz.tailTx ep es t wd).2.2.place.toList := by
  unfold Froz.tailTx
  split
  · exact relayAll_ris _ _ _
  · exact r
theorem tail_led {ep : Nat} {es : Array (Int × Value)} {t : SetTable} {wd : Bool} : (Froz.tailTx ep es t wd).2.2.led = t.led := by
  unfold Froz.tailTx
  split
  · exact relayAll_led _ _ _
  · rfl
theorem tx_ris {h : Int} {v : Value} {D : Froz.SD} (r : Ris D.2.2.place.toList) : Ris (Froz.addTx h v D).2.2.place.toList := by
  have r1 := layNew_ris D.2.2 D.1 h v r
  unfold Froz.addTx
  refine tail_ris ?_
  split <;> exact r1
theorem tx_led {h : Int} {v : Value} {D : Froz.SD} : (Froz.addTx h v D).2.2.led = D.2.2.led := by
  have r1 := layNew_led D.2.2 D.1 h v
  unfold Froz.addTx
  rw [tail_led]
  split <;> exact r1
/-- a text that is in the set -/
theorem add_in {a : Addr} {D : Froz.SD} {l : List Str} {k : Str} {u : Tok} {Q : Bool → Shared → Prop} (ho : s.heap.get? a = some (Froz.sObj "set" D)) (F : Froz.TxOk P w D l) (hk : k ∈ l) (hb : l.length < scanBound) (h : Q false s) :
    wpAny (model P w) A (setAddHashed a (.str k u) (hashStr w k)) Q E s := by
  obtain ⟨es, ep, t⟩ := D
  have d1 : (Froz.sObj "set" (es, ep, t)).data = .set es ep t := rfl
  have d2 : t.fits es.size = true := F.fit
  have d3 : ElemsOf (strKind P w) es.toList := F.el
  have d4 : es.size = l.length := F.sz
  unfold setAddHashed setAddHashedIn
  refine wpAny_holding (wpAny_bind (wpAny_setState_of ho d1 d2 ?_))
  dsimp only
  rw [byScan_of rfl (by omega) d3]
  simp only [↓reduceIte]
  unfold setAddByScan
  refine wpAny_bind (wpAny_bind (wpAny_rule (wpAny_bind (wpAny_setScan_of (knd := strKind P w) (k := k) (Froz.is_str k u) ho d1 d2 d3 ?_))))
  cases q : es.toList.findIdx? (fun e => (strKind P w).is k e.2) with
  | some j => exact wpAny_pure (wpAny_pure h)
  | none =>
    obtain ⟨e, he, z⟩ := (F.mem k).mp hk
    have := List.findIdx?_eq_none_iff.mp q e he
    rw [z] at this
    cases this
theorem addsS : Adds P w IsS (TSt P w) where
  mono := fun h _ => h
  stay := fun ⟨D, h1, h2⟩ k => ⟨D, k _ h1, h2⟩
  nil := fun {h a} ho => ⟨(#[], 0, .fresh 0 0 (!w.params.followText "set-order")), ho, .nil rfl, List.Pairwise.nil, by
    show _ ∨ (!w.params.followText "set-order") = true
    cases w.params.followText "set-order"
    · exact .inr rfl
    · exact .inl rfl⟩
  add := fun {A E s a L v k Q} hu ⟨D, h1, h2, h3, h4⟩ _ ⟨t, e⟩ few h => by
    subst e
    have few2 : (L.map (·.2)).length + 1 < scanBound := by rw [List.length_map]; unfold scanBound; omega
    unfold setAdd
    refine wpAny_holding (wpAny_bind ((strKind P w).pyHash (k := k) (Froz.is_str k t) ?_))
    by_cases c : k ∈ L.map (·.2)
    · refine add_in (s := { s with toks := s.toks + 1 }) h1 h2 c (by omega) ?_
      exact h false s.heap _ L (Nat.le_succ _) (Heap.SameBut.refl a s.heap) ⟨D, h1, h2, h3, h4⟩ (fun _ => rfl) fun z => absurd c z
    · refine Froz.add_x (s := { s with toks := s.toks + 1 }) h1 h2 c few2 ?_
      refine h true _ _ ((.str k t, k) :: L) (Nat.le_succ _) (Heap.SameBut.update ..) ⟨_, Froz.get_upd _ h1 rfl, Froz.add_ok t h2, tx_ris h3, ?_⟩ (fun z => absurd z c) fun _ => .rfl
      rw [tx_led]
      exact h4
/-- the members as values -/
theorem TSt.vals {a : Addr} {L : List (Value × Str)} {h : Heap} (nd : (L.map (·.2)).Nodup) (S : TSt P w h a L) : ∃ (es : Array (Int × Value)) (ep : Nat) (t : SetTable) (ys : List Str), SetAt h a es ep t ∧ (∃ o, h.get? a = some o ∧ o.ExactSet ∧ o.data = .set es ep t) ∧ t.fits es.size = true ∧ Ris t.place.toList ∧
    (w.params.followText "set-order" = true ∨ t.led = true) ∧ PySem.W.EachIs (IsS h) ys (es.toList.map (·.2)) ∧ ys.Perm (L.map (·.2)) := by
  obtain ⟨⟨es, ep, t⟩, h1, h2, h3, h4⟩ := S
  have key : ∀ l : List (Int × Value), ElemsOf (strKind P w) l → ∃ ys : List Str, PySem.W.EachIs (IsS h) ys (l.map (·.2)) ∧ ∀ k, (∃ e ∈ l, (strKind P w).is k e.2 = true) → k ∈ ys := by
    intro l
    induction l with
    | nil => exact fun _ => ⟨[], .nil, fun k ⟨e, he, _⟩ => by cases he⟩
    | cons x l ih =>
      intro hx
      obtain ⟨ys, y1, y2⟩ := ih hx.tail
      obtain ⟨⟨k, k1, _⟩, _⟩ := hx.head
      have hv : ∃ u, x.2 = .str k u := by
        have k2 : Value.isStrOf k x.2 = true := k1
        cases q : x.2 with
        | str y u =>
          rw [q] at k2
          exact ⟨u, by rw [show y = k by simpa [Value.isStrOf] using k2]⟩
        | _ => rw [q] at k2; simp [Value.isStrOf] at k2
      refine ⟨k :: ys, .cons hv y1, fun k' ⟨e, he, z⟩ => ?_⟩
      rcases List.mem_cons.mp he with q | q
      · rw [q] at z
        rw [(strKind P w).inj x.2 k' k z k1]
        exact .head _
      · exact .tail _ (y2 k' ⟨e, q, z⟩)
  obtain ⟨ys, y1, y2⟩ := key es.toList h2.el
  refine ⟨es, ep, t, ys, ⟨_, h1, rfl, rfl⟩, ⟨_, h1, ⟨rfl, rfl, rfl⟩, rfl⟩, h2.fit, h3, h4, y1, perm_of_few _ _ nd (fun k hk => y2 k ((h2.mem k).mp hk)) ?_⟩
  have l1 := y1.length
  have l2 : es.size = (L.map (·.2)).length := h2.sz
  rw [List.length_map] at l1
  have l3 : es.toList.length = es.size := Array.length_toList
  rw [l1, l3, l2]
  exact Nat.le_refl _
theorem pw_sort (l : List Str) : (l.mergeSort leS).Pairwise fun a b => leS a b = true :=
  List.pairwise_mergeSort (le := leS) (fun a b c p q => decide_eq_true (List.le_trans (of_decide_eq_true p) (of_decide_eq_true q))) (fun a b => by
    rcases List.le_total a.cps.toList b.cps.toList with p | p <;> simp [leS, p]) l
theorem each_swap {h : Heap} : ∀ {ys : List Str} {vs : List Value}, PySem.W.EachIs (IsS h) ys vs → PySem.W.EachIs (fun v b => IsS h b v) vs ys
  | _, _, .nil => .nil
  | _, _, .cons r t => .cons r (each_swap t)
theorem each_permS {α β : Type} {R : α → β → Prop} {vs us : List α} (p : us.Perm vs) : ∀ {bs : List β}, PySem.W.EachIs R vs bs → ∃ cs, PySem.W.EachIs R us cs ∧ cs.Perm bs := by
  induction p with
  | nil => intro bs h; exact ⟨bs, h, .rfl⟩
  | @cons x l m _ ih =>
    intro bs h
    cases h with
    | @cons _ b _ bs r t =>
      obtain ⟨cs, h1, h2⟩ := ih t
      exact ⟨b :: cs, .cons r h1, .cons b h2⟩
  | @swap x y l =>
    intro bs h
    cases h with
    | @cons _ b _ _ r t =>
      cases t with
      | @cons _ c _ bs r2 t2 => exact ⟨c :: b :: bs, .cons r2 (.cons r t2), .swap ..⟩
  | @trans l m n _ _ ih1 ih2 =>
    intro bs h
    obtain ⟨cs, h1, h2⟩ := ih2 h
    obtain ⟨ds, h3, h4⟩ := ih1 h1
    exact ⟨ds, h3, h4.trans h2⟩
theorem alike_strs (ys : List Str) : PySem.W.AllAlike (ys.map PyData.str) := PySem.W.AllAlike.of fun _ _ => rfl
theorem sort_strs {a : Addr} {n : Nat} {vs : List Value} {ys : List Str} {Q : Value → Shared → Prop} (ho : s.heap.get? a = some (seqObj "list" vs.toArray n)) (e : PySem.W.EachIs (fun v b => IsS s.heap b v) vs ys) (hl : ys.length ≤ sizeLine) (hu : A.units + 2 < cLine)
    (h : ∀ out : List Value, PySem.W.EachIs (fun v b => IsS s.heap b v) out (ys.mergeSort leS) → Q .none { s with heap := sortedHeap s.heap a vs out.toArray }) : wpAny (model P w) A (call (.builtin "list.sort") [.ref a]) Q E s := by
  refine PySem.W.list_sort_data (enc := PyData.str) ho e (e.mono fun v b ⟨t, q⟩ => ⟨[], by rw [q]; exact .str b t, by simp⟩) (alike_strs ys) (PySem.W.Sortable.others fun b => ⟨fun z => (by cases z), fun _ z => (by cases z)⟩) hl (fun b _ => ?_) fun out _ q => ?_
  · show A.units + 1 + 0 < cLine
    omega
  · rw [PySem.W.dataLe_str] at q
    exact h out q
/-- sorted(set of texts) -/
theorem sorted_setS {a : Addr} {L : List (Value × Str)} {Q : Value → Shared → Prop} (S : TSt P w s.heap a L) (nd : (L.map (·.2)).Nodup) (few : L.length < 77) (hh : A.handled = none) (hu : A.units + 60 < cLine)
    (h : ∀ s' p c (out : List Value), (∀ b o, s.heap.get? b = some o → s'.heap.get? b = some o) → s'.gens = s.gens → s'.os = s.os → s.heap.objs.size ≤ p → s'.heap.get? p = some (seqObj "list" out.toArray c) →
      PySem.W.EachIs (fun v b => ∃ t, v = Value.str b t) out ((L.map (·.2)).mergeSort leS) → Q (.ref p) s') :
    wpAny (model P w) A (call (.builtin "sorted") [.ref a]) Q E s := by
  obtain ⟨es, ep, t, ys, h1, _, h3, h4, h5, h6, h7⟩ := S.vals nd
  have hl := h6.length
  have hl2 := h7.length_eq
  rw [List.length_map] at hl hl2
  have hl3 : es.size < scanBound := by
    rw [← Array.length_toList, ← hl]
    unfold scanBound
    omega
  refine Calls.call_function_entry kind_sorted plain_sorted entry_sorted (args_sorted1 _) ?_
  unfold Builtin.«sorted»
  refine wpAny_bind (m := checkCount "sorted" 1 1 _) (wpAny_pure ?_)
  refine wpAny_bind (collect_set (A := A.in1) hh h1 h3 hl3 h4 h5 fun s1 vs k1 k2 g1 o1 pm => ?_)
  obtain ⟨zs, z1, z2⟩ := each_permS pm (each_swap h6)
  have hz := z1.length
  have hz2 := z2.length_eq
  refine wpAny_bind (wpAny_newList ?_ (by rw [sizeLine_eq]; omega))
  have ho : (s1.heap.push (seqObj "list" vs.toArray 0)).get? s1.heap.objs.size = some (seqObj "list" vs.toArray 0) := Heap.get?_push_size _ rfl
  refine wpAny_bind (wpAny_holding (sort_strs (s := { s1 with heap := s1.heap.push (seqObj "list" vs.toArray 0) }) ho z1 (by rw [sizeLine_eq]; omega) (by show A.units + 1 + 2 < cLine; omega) fun out q => ?_))
  obtain ⟨c, hc⟩ := sortedHeap_at (vs := vs) (out := out.toArray) ho
  refine wpAny_pure ⟨_, rfl, h _ s1.heap.objs.size c out (fun b u e => ?_) g1 o1 k2 hc ?_⟩
  · have q1 := k1 b u e
    have lt := Heap.lt_size q1
    show (sortedHeap (s1.heap.push (seqObj "list" vs.toArray 0)) s1.heap.objs.size vs out.toArray).get? b = some u
    rw [sortedHeap_old (Nat.ne_of_lt lt) (by rw [size_push']; exact Nat.lt_succ_of_lt lt)]
    exact Heap.get?_push_of_some _ q1
  · have e : zs.mergeSort leS = (L.map (·.2)).mergeSort leS := by
      refine List.Perm.eq_of_pairwise (le := fun a b => leS a b = true) (fun a b _ _ p q => ?_) ?_ ?_ ?_
      · have := List.le_antisymm (of_decide_eq_true p) (of_decide_eq_true q)
        cases a; cases b
        simpa using this
      · exact pw_sort _
      · exact pw_sort _
      · exact (List.mergeSort_perm _ _).trans ((z2.trans h7).trans (List.mergeSort_perm _ _).symm)
    rw [← e]
    exact q
end
end Nv

set_option Elab.async false
set_option linter.all false
set_option maxRecDepth 100000
set_option autoImplicit false
set_option maxHeartbeats 4000000
/-! NvSetT: set(list of tuples), the tuples nested to any depth below nine. -/
namespace Nv
open PySem PySem.Spec PyProof.Rows L2
open SetTable (Probe)

/-- what a set asks of its elements, where they are no plain values -/
structure Side (P : Program) (w : World) {κ : Type} [DecidableEq κ] (Is : Heap → κ → Value → Prop) (kh : κ → Int) (dr : κ → Nat) : Prop where
  mono : ∀ {h h' : Heap} {k : κ} {v : Value}, Is h k v → (∀ b o, h.get? b = some o → h'.get? b = some o) → Is h' k v
  addr : ∀ {h : Heap} {k : κ} {v : Value}, Is h k v → ∃ a, v = .ref a
  hash : ∀ {A : Around} {E : Value → Shared → Prop} {s : Shared} {k : κ} {v : Value} {Q : Int → Shared → Prop}, A.units + 60 < cLine → Is s.heap k v → Q (kh k) { s with toks := s.toks + dr k } → wpAny (model P w) A (pyHash v) Q E s
  same : ∀ {A : Around} {E : Value → Shared → Prop} {s : Shared} {x y : κ} {u v : Value} {Q : Bool → Shared → Prop}, A.units + 60 < cLine → Is s.heap x u → Is s.heap y v → Q (decide (x = y)) s → wpAny (model P w) A (eqBool u v) Q E s
  seen : ∀ {A : Around} {E : Value → Shared → Prop} {s : Shared} {k : κ} {v : Value} {ys : List Value} {Q : Bool → Shared → Prop}, Is s.heap k v → (∀ y ∈ ys, ∃ k', Is s.heap k' y) → Q false s → wpAny (model P w) A (searchCouldBeSeen v ys) Q E s
  byv : ∀ {A : Around} {E : Value → Shared → Prop} {s : Shared} {k : κ} {v : Value} {Q : Bool → Shared → Prop}, Is s.heap k v → (∀ b, Q b s) → wpAny (model P w) A (hashByValue 8 v) Q E s
/-- a set's state with its rows -/
structure NS (w : World) {κ : Type} (kh : κ → Int) (h : Heap) (a : Addr) (L : List (Value × κ)) (es : Array (Int × Value)) (ep : Nat) (t : SetTable) : Prop where
  ob : ∃ o, h.get? a = some o ∧ o.ExactSet ∧ o.data = .set es ep t
  rows : es.toList = L.map fun p => (kh p.2, p.1)
  tab : TabOk t (L.map fun p => kh p.2)
  nd : (L.map (·.2)).Nodup
  led : w.params.followText "set-order" = true ∨ t.led = true
  room : L.length * 5 < t.mask * 3
  few : L.length < 77
/-- the k-th step of a hash's way -/
abbrev stp (t : SetTable) (h : Int) (c : Nat) : Probe := nth t.mask (runAt t.mask (SetTable.bits h % (t.mask + 1)) (SetTable.bits h)) c
theorem stp_dummy (t : SetTable) (h : Int) : ∀ c, (stp t h c).dummy = none := by
  have key : ∀ (n : Nat) (p : Probe), p.dummy = none → (nth t.mask p n).dummy = none := by
    intro n
    induction n with
    | zero => exact fun p h => h
    | succ n ih => exact fun p h => ih (adv t.mask p) (by unfold adv; split <;> exact h)
  exact fun c => key c _ rfl
section
variable {P : Program} {w : World} {A : Around} {E : Value → Shared → Prop} {s : Shared} {κ : Type} {kh : κ → Int}
variable {a : Addr} {L : List (Value × κ)} {es : Array (Int × Value)} {ep : Nat} {t : SetTable}
theorem NS.size (R : NS w kh s.heap a L es ep t) : es.size = L.length := by
  have q := congrArg List.length R.rows
  rwa [Array.length_toList, List.length_map] at q
theorem NS.psz (R : NS w kh s.heap a L es ep t) : t.place.size = L.length := by
  have q := R.tab.sz
  rwa [List.length_map] at q
theorem fits_of {n : Nat} (h1 : t.dummies = #[]) (h2 : t.place.size = n) (h3 : n ≤ t.mask) : t.fits n = true := by
  unfold SetTable.fits SetTable.fill
  rw [h1, Bool.and_eq_true, beq_iff_eq, decide_eq_true_eq]
  exact ⟨h2, by show t.place.size + 0 ≤ t.mask; omega⟩
theorem NS.fit (R : NS w kh s.heap a L es ep t) : t.fits es.size = true := by
  have r := R.room
  rw [R.size]
  exact fits_of R.tab.dm R.psz (by omega)
theorem NS.row (R : NS w kh s.heap a L es ep t) {i : Nat} {p : Value × κ} (h : L[i]? = some p) : es[i]? = some (kh p.2, p.1) := by
  rw [← Array.getElem?_toList, R.rows, List.getElem?_map, h]; rfl
theorem no_gave {m : SetTable} (h : MaskOk m.mask) : ¬ m.gaveWay = true := by
  unfold SetTable.gaveWay
  rw [mask_odd h]
  decide
/-- the search, from step c of the way on -/
theorem seek [DecidableEq κ] {Is : Heap → κ → Value → Prop} {dr : κ → Nat} (D : Side P w Is kh dr) (R : NS w kh s.heap a L es ep t) (hk : ∀ p ∈ L, Is s.heap p.2 p.1) {v : Value} {k : κ} (hx : Is s.heap k v) (hu : A.units + 60 < cLine) {K : Nat}
    (k1 : K < 10 * SetTable.turns t.mask) (k2 : way t.mask (kh k) K ∉ t.place.toList) (k3 : ∀ c, c < K → way t.mask (kh k) c ∈ t.place.toList) {Q : SetFound → Shared → Prop}
    (q1 : k ∈ L.map (·.2) → Q (.there none) s) (q2 : k ∉ L.map (·.2) → Q (.free (way t.mask (kh k) K) false) s) :
    ∀ (f c : Nat) (from_ : Option Probe), from_.getD (t.probeStart (kh k)) = stp t (kh k) c → c ≤ K → K - c < f →
      (∀ (i : Nat) p, L[i]? = some p → p.2 = k → ∃ d, c ≤ d ∧ d < K ∧ t.place.toList[i]? = some (way t.mask (kh k) d)) →
      wpAny (model P w) A (setSearchFrom a v (kh k) true f from_) Q E s := by
  intro f
  induction f with
  | zero => exact fun c _ _ _ z => absurd z (Nat.not_lt_zero _)
  | succ f ih =>
    intro c from_ e0 cK lt mine
    obtain ⟨o, ho, _, hd⟩ := R.ob
    have stepE : ∀ q, nth t.mask (stp t (kh k) c) q = stp t (kh k) (c + q) := fun q => (nth_add t.mask c _ q).symm
    have stepJ : ∀ q, (nth t.mask (stp t (kh k) c) q).j = way t.mask (kh k) (c + q) := fun q => congrArg Probe.j (stepE q)
    have back : c + (K - c) = K := by omega
    have at_ : ∀ (i : Nat) p, L[i]? = some p → (es[i]?.map (·.1)).getD 0 = kh p.2 := fun i p hp => by rw [R.row hp]; rfl
    rw [setSearchFrom_succ]
    refine wpAny_bind (wpAny_setState_of ho hd R.fit ?_)
    dsimp only
    refine wp_if_neg (no_gave R.tab.mok) ?_
    try refine wpAny_bind (wpAny_pure ?_)
    rcases go_spec t R.tab.ris R.tab.dm (fun i => (es[i]?.map (·.1)).getD 0) (kh k) (10 * SetTable.turns t.mask) (K - c) _ (stp_dummy t (kh k) c) (by omega) (fun q hq => by rw [stepJ]; exact k3 _ (by omega)) (by rw [stepJ, back]; exact k2) with ⟨q, i, g1, g2, g3, g4, g5⟩ | ⟨g1, g2⟩
    · rw [stepJ] at g2
      have pr : t.probe (fun i => (es[i]?.map (·.1)).getD 0) (kh k) (from_.getD (t.probeStart (kh k))) = some (.candidate (way t.mask (kh k) (c + q)) i (stp t (kh k) (c + (q + 1)))) := by
        rw [e0, ← stepJ, ← stepE]
        exact g5
      rw [pr]
      dsimp only
      have il : i < L.length := by
        have z := (List.getElem?_eq_some_iff.mp g2).1
        rwa [Array.length_toList, R.psz] at z
      obtain ⟨p, hp⟩ : ∃ p, L[i]? = some p := ⟨_, List.getElem?_eq_getElem il⟩
      have pm : p ∈ L := List.mem_of_getElem? hp
      have live : t.slot (way t.mask (kh k) (c + q)) = .live i := slot_live R.tab.ris g2
      have main : wpAny (model P w) A (searchRest a v (kh k) true f es t (way t.mask (kh k) (c + q)) i (stp t (kh k) (c + (q + 1)))) Q E s := by
        unfold searchRest
        rw [R.row hp]
        dsimp only
        refine wpAny_bind (wpAny_holding (D.same hu (hk p pm) hx (wpAny_bind (wpAny_setState_of ho hd R.fit ?_))))
        dsimp only
        by_cases c1 : p.2 = k
        · exact wp_if_pos (by simp [c1]) (wpAny_pure (q1 (List.mem_map.mpr ⟨p, pm, c1⟩)))
        · refine wp_if_neg (by simp [c1]) ?_
          try refine wpAny_bind (wpAny_pure ?_)
          rw [sameMem]
          dsimp only
          simp only [if_true, live, R.row hp]
          obtain ⟨b, hb⟩ := D.addr (hk p pm)
          rw [hb]
          refine wpAny_bind (wpAny_isSame_ref_self (wpAny_bind (wpAny_pure ?_)))
          simp only [if_true]
          refine wp_if_neg (by simp [c1]) (ih (c + (q + 1)) _ rfl (by omega) (by omega) fun i0 p0 h0 e1 => ?_)
          obtain ⟨d, d1, d2, d3⟩ := mine i0 p0 h0 e1
          refine ⟨d, ?_, d2, d3⟩
          -- a row of the key is not behind
          have e2 := (at_ i0 p0 h0).trans (congrArg kh e1)
          rcases Nat.lt_trichotomy d (c + q) with z | z | z
          · exact absurd e2 (g4 (d - c) i0 (by omega) (by rw [stepJ, show c + (d - c) = d by omega]; exact d3))
          · rw [z] at d3
            have l2 := slot_live R.tab.ris d3
            rw [live] at l2
            injection l2 with l2
            rw [← l2, hp] at h0
            cases h0
            exact absurd e1 c1
          · omega
      by_cases l : t.led = true
      · refine wp_if_neg (by simp [l]) ?_
        try refine wpAny_bind (wpAny_pure ?_)
        exact main
      · refine wp_if_pos (by simp [l]) (wpAny_bind (D.seen hx (fun y hy => ?_) (wp_if_neg (by decide) ?_)))
        · obtain ⟨e, he, rfl⟩ := List.mem_map.mp hy
          have m2 : e ∈ es.toList := by
            have : e ∈ es ∧ e.1 = kh k := by simpa using he
            simpa using this.1
          rw [R.rows] at m2
          obtain ⟨p2, m3, rfl⟩ := List.mem_map.mp m2
          exact ⟨p2.2, hk p2 m3⟩
        · try refine wpAny_bind (wpAny_pure ?_)
          exact main
    · rw [stepJ, back] at g2
      have pr : t.probe (fun i => (es[i]?.map (·.1)).getD 0) (kh k) (from_.getD (t.probeStart (kh k))) = some (.empty (way t.mask (kh k) K) none) := by
        rw [e0]
        exact g2
      rw [pr]
      dsimp only
      refine wpAny_pure (q2 fun m => ?_)
      obtain ⟨p0, m0, e1⟩ := List.mem_map.mp m
      obtain ⟨i0, h0⟩ := List.mem_iff_getElem?.mp m0
      obtain ⟨d, d1, d2, d3⟩ := mine i0 p0 h0 e1
      exact g1 (d - c) i0 (by omega) (by rw [stepJ, show c + (d - c) = d by omega]; exact d3) ((at_ i0 p0 h0).trans (congrArg kh e1))
theorem seek_all [DecidableEq κ] {Is : Heap → κ → Value → Prop} {dr : κ → Nat} (D : Side P w Is kh dr) (R : NS w kh s.heap a L es ep t) (hk : ∀ p ∈ L, Is s.heap p.2 p.1) {v : Value} {k : κ} (hx : Is s.heap k v) (hu : A.units + 60 < cLine) {Q : SetFound → Shared → Prop}
    (q1 : k ∈ L.map (·.2) → Q (.there none) s)
    (q2 : ∀ K, k ∉ L.map (·.2) → way t.mask (kh k) K ∉ t.place.toList → (∀ c, c < K → way t.mask (kh k) c ∈ t.place.toList) → Q (.free (way t.mask (kh k) K) false) s) :
    wpAny (model P w) A (setSearch a v (kh k) true) Q E s := by
  have r := R.room
  obtain ⟨K, k1, k2, k3⟩ := R.tab.first (by rw [List.length_map]; omega) (kh k)
  have big : 10 * SetTable.turns t.mask < 100000 := by
    unfold SetTable.turns
    rcases R.tab.mok with e | e | e <;> omega
  unfold setSearch
  refine seek D R hk hx hu k1 k2 k3 q1 (fun hn => q2 K hn k2 k3) 100000 0 none rfl (Nat.zero_le _) (by omega) fun i p hp e => ?_
  have il : i < t.place.toList.length := by
    rw [Array.length_toList, R.psz]
    exact (List.getElem?_eq_some_iff.mp hp).1
  have hj := List.getElem?_eq_getElem il
  obtain ⟨c, c1, c2⟩ := R.tab.before (h := kh k) k2 (by rw [List.getElem?_map, hp, ← e]; rfl) hj
  exact ⟨c, Nat.zero_le _, c1, by rw [hj, c2]⟩
end
end Nv

set_option Elab.async false
set_option linter.all false
set_option maxRecDepth 100000
set_option autoImplicit false
set_option maxHeartbeats 4000000
/-! NvSetU: adding to a set of tuples. -/
namespace Nv
open PySem PySem.Spec PyProof.Rows L2
section
variable {P : Program} {w : World} {A : Around} {E : Value → Shared → Prop} {s : Shared} {κ : Type} {kh : κ → Int}
variable {a : Addr} {L : List (Value × κ)} {es : Array (Int × Value)} {ep : Nat} {t : SetTable}
/-- rows in another order -/
theorem reorder (es : Array (Int × Value)) (order : Array Nat) (h1 : es.toList = L.map fun p => (kh p.2, p.1)) (h2 : order.toList.Perm (List.range L.length)) :
    ∃ M : List (Value × κ), (order.filterMap (es[·]?)).toList = (M.map fun p => (kh p.2, p.1)) ∧ M.Perm L ∧ (M.map fun p => kh p.2) = order.toList.map fun i => (es.map (·.1)).getD i 0 := by
  have row : ∀ i : Nat, es[i]? = (L[i]?).map fun p => (kh p.2, p.1) := fun i => by rw [← Array.getElem?_toList, h1, List.getElem?_map]
  have pick : ∀ l : List Nat, (∀ i ∈ l, i < L.length) → l.filterMap (fun i => es[i]?) = (l.filterMap fun i => L[i]?).map (fun p => (kh p.2, p.1)) ∧ ((l.filterMap fun i => L[i]?).map fun p => kh p.2) = l.map fun i => (es.map (·.1)).getD i 0 := by
    intro l
    induction l with
    | nil => exact fun _ => ⟨rfl, rfl⟩
    | cons i l ih =>
      intro hl
      obtain ⟨e1, e2⟩ := ih fun j hj => hl j (.tail _ hj)
      have li := List.getElem?_eq_getElem (hl i (.head _))
      have ri : es[i]? = some (kh (L[i]'(hl i (.head _))).2, (L[i]'(hl i (.head _))).1) := by rw [row, li]; rfl
      rw [List.filterMap_cons_some ri, List.filterMap_cons_some li, e1]
      refine ⟨rfl, ?_⟩
      rw [List.map_cons, List.map_cons, e2]
      congr 1
      have : (es.map (·.1))[i]? = some (kh (L[i]'(hl i (.head _))).2) := by rw [Array.getElem?_map, ri]; rfl
      rw [Array.getD_eq_getD_getElem?, this]; rfl
  obtain ⟨e1, e2⟩ := pick order.toList fun i hi => List.mem_range.mp (h2.mem_iff.mp hi)
  refine ⟨_, by rw [Array.toList_filterMap]; exact e1, ?_, e2⟩
  have all : ∀ n, n ≤ L.length → (List.range n).filterMap (fun i => L[i]?) = L.take n := by
    intro n
    induction n with
    | zero => exact fun _ => rfl
    | succ n ih =>
      intro hn
      rw [List.range_succ, List.filterMap_append, ih (Nat.le_of_lt hn), List.take_add_one, List.getElem?_eq_getElem hn, List.filterMap_cons_some (List.getElem?_eq_getElem hn)]
      rfl
  have p1 := h2.filterMap fun i => L[i]?
  rwa [all L.length (Nat.le_refl _), List.take_length] at p1
theorem mid_perm {α : Type} (l : List α) (p : Nat) (x : α) : (l.take p ++ x :: l.drop p).Perm (x :: l) := by
  have q : (l.take p ++ x :: l.drop p).Perm (x :: (l.take p ++ l.drop p)) := List.perm_middle
  rwa [List.take_append_drop] at q
/-- the table laid anew -/
theorem relay {o : Obj} (ho : s.heap.get? a = some o) (hex : o.ExactSet) (hd : o.data = .set es ep t) (rows : es.toList = L.map fun p => (kh p.2, p.1)) (psz : t.place.size = L.length) (dm : t.dummies = #[]) (fl : L.length ≤ t.mask)
    (nd : (L.map (·.2)).Nodup) (ld : w.params.followText "set-order" = true ∨ t.led = true) (few : L.length < 77) {want M : Nat} (w1 : SetTable.sizeAbove want - 1 = M) (w2 : MaskOk M) (w3 : SetTable.sizeAbove want ≤ 128) (w4 : L.length * 5 < M * 3) {Q : Unit → Shared → Prop}
    (hQ : ∀ h' L' es' ep' t', Heap.SameBut a s.heap h' → NS w kh h' a L' es' ep' t' → L'.Perm L → Q () { s with heap := h' }) : wpAny (model P w) A (setRelay a want) Q E s := by
  have sz : es.size = L.length := by
    have q := congrArg List.length rows
    rwa [Array.length_toList, List.length_map] at q
  obtain ⟨t2, order, r1, r2, r3, r4, r5, _, r7⟩ := relaid_ok t (hs := es.map (·.1)) (wanted := want) w1 w2 (by rw [Array.size_map, sz]; omega)
  rw [Array.size_map, sz] at r2
  obtain ⟨N, m1, m2, m3⟩ := reorder es order rows r2
  rw [← m3] at r3
  have sz2 : (order.filterMap (es[·]?)).size = L.length := by
    have q := congrArg List.length m1
    rwa [Array.length_toList, List.length_map, m2.length_eq] at q
  rw [setRelay_eq]
  refine wpAny_bind (wpAny_setState_of ho hd (by rw [sz]; exact fits_of dm psz fl) ?_)
  dsimp only
  refine wp_if_neg (by rw [sizeLine_eq]; omega) ?_
  try refine wpAny_bind (wpAny_pure ?_)
  rw [r1]
  dsimp only
  refine wpAny_bind (wp_if_neg (by rw [sz2, sz]; simp) ?_)
  try refine wpAny_bind (wpAny_pure ?_)
  refine wpAny_pure ?_
  dsimp only
  refine wpAny_storeSet_of ho hd (hQ _ N _ (ep + 1) t2 (Heap.SameBut.update ..) ⟨⟨_, store_at ho hd, ⟨hex.1, hex.2.1, hex.2.2⟩, rfl⟩, m1, r3, (m2.map (·.2)).nodup_iff.mpr nd, by rw [r5]; exact ld, by rw [m2.length_eq, r4]; exact w4, by rw [m2.length_eq]; exact few⟩ m2) (by rw [sz2, sizeLine_eq]; omega)
/-- ADDING -/
theorem put_in [DecidableEq κ] {Is : Heap → κ → Value → Prop} {dr : κ → Nat} (D : Side P w Is kh dr) (R : NS w kh s.heap a L es ep t) (hk : ∀ p ∈ L, Is s.heap p.2 p.1) {v : Value} {k : κ} (hx : Is s.heap k v) (hu : A.units + 60 < cLine) (few : L.length + 1 < 77) {Q : Bool → Shared → Prop}
    (hQ : ∀ b h' L' es' ep' t', Heap.SameBut a s.heap h' → NS w kh h' a L' es' ep' t' → (k ∈ L.map (·.2) → L' = L) → (k ∉ L.map (·.2) → L'.Perm ((v, k) :: L)) → Q b { s with heap := h' }) :
    wpAny (model P w) A (setAddHashed a v (kh k)) Q E s := by
  obtain ⟨o, ho, hex, hd⟩ := R.ob
  have sz := R.size
  have rm := R.room
  obtain ⟨va, hva⟩ := D.addr hx
  unfold setAddHashed
  refine wpAny_holding ?_
  rw [show (100000 : Nat) = 99999 + 1 from rfl, setAddHashedIn_succ]
  refine wpAny_bind (wpAny_setState_of ho hd R.fit ?_)
  dsimp only
  refine wp_if_neg (by rw [hva]; simp [byScan, Value.scannable]) ?_
  try refine wpAny_bind (wpAny_pure ?_)
  refine wpAny_bind (seek_all D R hk hx hu (fun m => ?_) fun K m k2 k3 => ?_)
  · exact wpAny_pure (hQ false s.heap L es ep t (Heap.SameBut.refl a s.heap) R (fun _ => rfl) fun z => absurd m z)
  dsimp only
  refine wpAny_bind (wpAny_setState_of ho hd R.fit ?_)
  dsimp only
  obtain ⟨p1, p2, p3, p4, p5, p6, p7, p8, p9⟩ := R.tab.put k2 k3
  generalize hpt : t.put (way t.mask (kh k) K) = pt at p1 p3 p4 p5 p9 ⊢
  obtain ⟨t1, p⟩ := pt
  dsimp only at p1 p3 p4 p5 p9 ⊢
  subst p1
  rw [List.length_map] at p2 p9
  have e1 : (SetTable.insertAt es (SetTable.below t.place (way t.mask (kh k) K)) (kh k, v)).toList = (L.take (SetTable.below t.place (way t.mask (kh k) K)) ++ (v, k) :: L.drop (SetTable.below t.place (way t.mask (kh k) K))).map fun p => (kh p.2, p.1) := by
    rw [SetTable.toList_insertAt, R.rows, List.map_append, List.map_cons, List.map_take, List.map_drop]
  have e2 : (L.take (SetTable.below t.place (way t.mask (kh k) K)) ++ (v, k) :: L.drop (SetTable.below t.place (way t.mask (kh k) K))).map (fun p => kh p.2) = (L.map fun p => kh p.2).take (SetTable.below t.place (way t.mask (kh k) K)) ++ kh k :: (L.map fun p => kh p.2).drop (SetTable.below t.place (way t.mask (kh k) K)) := by
    rw [List.map_append, List.map_cons, List.map_take, List.map_drop]
  rw [← e2] at p3
  have pm := mid_perm L (SetTable.below t.place (way t.mask (kh k) K)) (v, k)
  generalize L.take (SetTable.below t.place (way t.mask (kh k) K)) ++ (v, k) :: L.drop (SetTable.below t.place (way t.mask (kh k) K)) = L1 at e1 p3 pm
  generalize SetTable.insertAt es (SetTable.below t.place (way t.mask (kh k) K)) (kh k, v) = es1 at e1 ⊢
  have len1 : L1.length = L.length + 1 := pm.length_eq
  have nd1 : (L1.map (·.2)).Nodup := (pm.map (·.2)).nodup_iff.mpr (List.nodup_cons.mpr ⟨m, R.nd⟩)
  have sz1 : es1.size = L1.length := by
    have q := congrArg List.length e1
    rwa [Array.length_toList, List.length_map] at q
  have psz1 : t1.place.size = L1.length := by
    have q := p3.sz
    rwa [List.length_map] at q
  have led1 : w.params.followText "set-order" = true ∨ t1.led = true := by rw [p5]; exact R.led
  -- whatever the table's mark becomes
  have rest : ∀ t2 : SetTable, t2.mask = t1.mask → t2.place = t1.place → t2.dummies = t1.dummies → t2.led = t1.led → TabOk t2 (L1.map fun p => kh p.2) →
      wpAny (model P w) A (storeSet a es1 t2 >>= fun _ => if (!false && t2.tooFull) = true then setRelay a (SetTable.grown (es.size + 1)) >>= fun _ => pure true else pure true) Q E s := fun t2 z1 z2 z3 z4 z5 => by
    refine wpAny_bind (wpAny_storeSet_of ho hd ?_ (by rw [sz1, len1, sizeLine_eq]; omega))
    have sb : Heap.SameBut a s.heap (s.heap.update a (Obj.putSet es1 t2)) := Heap.SameBut.update ..
    have ho1 := store_at (es' := es1) (t' := t2) ho hd
    have fill : t2.fill = L.length + 1 := by
      unfold SetTable.fill at p9 ⊢
      rw [z2, z3]
      exact p9
    by_cases full : t2.tooFull = true
    · refine wp_if_pos (by simp [full]) (wpAny_bind ?_)
      have f2 : (L.length + 1) * 5 ≥ t2.mask * 3 := by
        unfold SetTable.tooFull at full
        rwa [decide_eq_true_eq, fill] at full
      rw [sz]
      have go : ∀ M, SetTable.sizeAbove (SetTable.grown (L.length + 1)) - 1 = M → MaskOk M → SetTable.sizeAbove (SetTable.grown (L.length + 1)) ≤ 128 → (L.length + 1) * 5 < M * 3 → L.length + 1 ≤ t2.mask →
          wpAny (model P w) A (setRelay a (SetTable.grown (L.length + 1))) (fun _ s' => wpAny (model P w) A (pure true) Q E s') E { s with heap := s.heap.update a (Obj.putSet es1 t2) } := fun M y1 y2 y3 y4 y5 => by
        refine relay (s := { s with heap := s.heap.update a (Obj.putSet es1 t2) }) ho1 ⟨hex.1, hex.2.1, hex.2.2⟩ rfl e1 (by rw [z2]; exact psz1) z5.dm (by rw [len1]; exact y5) nd1 (by rw [z4]; exact led1) (by rw [len1]; exact few) y1 y2 y3 (by rw [len1]; exact y4) ?_
        exact fun h2 L2 es2 ep2 t3 sb2 R2 pm2 => wpAny_pure (hQ true h2 L2 es2 ep2 t3 (sb.trans sb2) R2 (fun z => absurd z m) fun _ => pm2.trans pm)
      rcases R.tab.mok with q | q | q
      · have l4 : L.length = 4 := by rw [z1, p4, q] at f2; rw [q] at rm; omega
        exact go 31 (by rw [l4, size_20]) (.inr (.inl rfl)) (by rw [l4, size_20]; decide) (by omega) (by rw [z1, p4, q, l4]; decide)
      · have l4 : L.length = 18 := by rw [z1, p4, q] at f2; rw [q] at rm; omega
        exact go 127 (by rw [l4, size_76]) (.inr (.inr rfl)) (by rw [l4, size_76]; decide) (by omega) (by rw [z1, p4, q, l4]; decide)
      · rw [z1, p4, q] at f2
        omega
    · refine wp_if_neg (by simp [full]) (wpAny_pure (hQ true _ L1 es1 (ep + 1) t2 sb ⟨⟨_, ho1, ⟨hex.1, hex.2.1, hex.2.2⟩, rfl⟩, e1, z5, nd1, by rw [z4]; exact led1, ?_, by rw [len1]; exact few⟩ (fun z => absurd z m) fun _ => pm))
      unfold SetTable.tooFull at full
      rw [decide_eq_true_eq, fill] at full
      rw [len1]
      omega
  have off : wpAny (model P w) A (storeSet a es1 { t1 with plain := false } >>= fun _ => if (!false && ({ t1 with plain := false } : SetTable).tooFull) = true then setRelay a (SetTable.grown (es.size + 1)) >>= fun _ => pure true else pure true) Q E s :=
    rest { t1 with plain := false } rfl rfl rfl rfl ⟨p3.ris, p3.dm, p3.sz, p3.mok, p3.bd, p3.reach⟩
  have on := rest t1 rfl rfl rfl rfl p3
  by_cases pl : t1.plain = true
  · first
      | (refine wpAny_bind ?_; refine wp_if_pos pl ?_; refine D.byv hx fun b => ?_)
      | refine wp_if_pos pl (wpAny_bind (D.byv hx fun b => ?_))
    cases b
    · exact off
    · exact on
  · first
      | (refine wpAny_bind ?_; refine wp_if_neg pl (wpAny_pure ?_))
      | refine wp_if_neg pl (wpAny_bind (wpAny_pure ?_))
    exact on
/-- what stands of the set alone -/
def NSt (w : World) {κ : Type} (kh : κ → Int) (h : Heap) (a : Addr) (L : List (Value × κ)) : Prop := ∃ es ep t, NS w kh h a L es ep t
theorem addsT [DecidableEq κ] {Is : Heap → κ → Value → Prop} {dr : κ → Nat} (D : Side P w Is kh dr) : Adds P w Is (NSt w kh) where
  mono := D.mono
  stay := fun ⟨es, ep, t, R⟩ k => by
    obtain ⟨o, ho, r⟩ := R.ob
    exact ⟨es, ep, t, ⟨o, k o ho, r⟩, R.rows, R.tab, R.nd, R.led, R.room, R.few⟩
  nil := fun {h a} ho => ⟨#[], 0, .fresh 0 0 (!w.params.followText "set-order"), {
    ob := ⟨_, ho, ⟨rfl, rfl, rfl⟩, rfl⟩
    rows := rfl
    tab := ⟨List.Pairwise.nil, rfl, rfl, .inl rfl, fun x hx => (by cases hx), fun i h j hi => (by simp at hi)⟩
    nd := List.nodup_nil
    led := by
      show _ ∨ (!w.params.followText "set-order") = true
      cases w.params.followText "set-order"
      · exact .inr rfl
      · exact .inl rfl
    room := by show 0 * 5 < 7 * 3; decide
    few := by show 0 < 77; decide }⟩
  add := fun {A E s a L v k Q} hu ⟨es, ep, t, R⟩ hk hx few h => by
    unfold setAdd
    refine wpAny_holding (wpAny_bind (D.hash hu hx ?_))
    have up : ∀ {k' : κ} {v' : Value}, Is s.heap k' v' → Is ({ s with toks := s.toks + dr k } : Shared).heap k' v' := fun z => z
    exact put_in (s := { s with toks := s.toks + dr k }) D R hk hx hu few fun b h' L' es' ep' t' sb R' c1 c2 => h b h' _ L' (Nat.le_add_right _ _) sb ⟨es', ep', t', R'⟩ c1 c2
end
end Nv

set_option Elab.async false
set_option linter.all false
set_option maxRecDepth 100000
set_option autoImplicit false
set_option maxHeartbeats 4000000
/-! NvSetN: tuples of numbers, texts, truths, None and such tuples, as a set's elements. -/
namespace Nv
open PySem PySem.Spec PyProof.Rows L2

def IsN (h : Heap) (k : NestedKey) (v : Value) : Prop := (∃ a, v = .ref a) ∧ NestedIs h k v ∧ k.depth ≤ 8
section
variable {P : Program} {w : World}
/-- a question whose answer may be any truth; or is no -/
def AnyB (P : Program) (w : World) (f : Sem Bool) (s : Shared) : Prop := ∀ (A : Around) (E : Value → Shared → Prop) (Q : Bool → Shared → Prop), (∀ b, Q b s) → wpAny (model P w) A f Q E s
def NoB (P : Program) (w : World) (f : Sem Bool) (s : Shared) : Prop := ∀ (A : Around) (E : Value → Shared → Prop) (Q : Bool → Shared → Prop), Q false s → wpAny (model P w) A f Q E s
theorem anyB_pure {b : Bool} {s : Shared} : AnyB P w (pure b) s := fun A E Q h => wpAny_pure (h b)
theorem byv_tup {a : Addr} {o : Obj} {vs : Array Value} {m n : Nat} {s : Shared} (ho : s.heap.get? a = some o) (hc : o.cls = .type "tuple") (hd : o.data = .seq vs m) (hq : ∀ v ∈ vs.toList, AnyB P w (hashByValue n v) s) : AnyB P w (hashByValue (n + 1) (.ref a)) s := fun A E Q h => by
  have hT : s.TypeIs (.ref a) "tuple" := ⟨o, ho, hc⟩
  unfold hashByValue
  refine wpAny_bind (wpAny_specialOf hT F.slot_tuple_hash.lookup ?_)
  show wpAny _ _ (seqItems? (.ref a) >>= fun _ => _) _ _ s
  refine wpAny_bind (wpAny_seqItems ho hd (wpAny_bind ?_))
  show wpAny _ _ (forIn vs _ _) _ _ s
  rw [← Array.forIn_toList]
  refine wpAny_forIn_list _ (fun rest r s' => r.1 = none ∧ s' = s ∧ ∀ v ∈ rest, AnyB P w (hashByValue n v) s) _ ?_ ?_ _ _ ⟨rfl, rfl, hq⟩
  · rintro v rest r s' ⟨hr, rfl, hall⟩
    refine wpAny_bind (hall v (.head _) _ _ _ fun b => ?_)
    cases b
    · simp only [Bool.not_false, if_true]
      exact wpAny_pure (wpAny_pure (h false))
    · simp only [Bool.not_true, Bool.false_eq_true, if_false]
      exact wpAny_pure ⟨rfl, rfl, fun u hu => hall u (.tail _ hu)⟩
  · rintro ⟨r1, r2⟩ s' ⟨hr, rfl, _⟩
    simp only at hr
    subst hr
    exact wpAny_pure (h true)
mutual
theorem byv_key : ∀ (k : NestedKey) (v : Value) (n : Nat) (s : Shared), NestedIs s.heap k v → AnyB P w (hashByValue n v) s
  | .none, _, n, s, x => by cases x; cases n <;> exact anyB_pure
  | .num i, _, n, s, x => by cases x <;> cases n <;> exact anyB_pure
  | .text y, _, n, s, x => by cases x; cases n <;> exact anyB_pure
  | .tup ks, _, n, s, x => by
    cases x with
    | tup ho hc hd hk =>
      cases n with
      | zero => exact anyB_pure
      | succ n => exact byv_tup ho hc hd (byv_keys ks _ n s hk)
theorem byv_keys : ∀ (ks : List NestedKey) (vs : List Value) (n : Nat) (s : Shared), NestedAll s.heap ks vs → ∀ v ∈ vs, AnyB P w (hashByValue n v) s
  | [], _, n, s, x, v, hv => by cases x; cases hv
  | k :: ks, _, n, s, x, v, hv => by
    cases x with
    | cons x1 x2 =>
      rcases List.mem_cons.mp hv with e | hv
      · rw [e]; exact byv_key k _ n s x1
      · exact byv_keys ks _ n s x2 v hv
end
theorem ofc_tup {a : Addr} {o : Obj} {vs : Array Value} {m n : Nat} {s : Shared} (ho : s.heap.get? a = some o) (hc : o.cls = .type "tuple") (hd : o.data = .seq vs m) (hq : ∀ v ∈ vs.toList, NoB P w (ofAClassStatement n v) s) : NoB P w (ofAClassStatement (n + 1) (.ref a)) s := fun A E Q h => by
  have hT : s.TypeIs (.ref a) "tuple" := ⟨o, ho, hc⟩
  unfold ofAClassStatement
  refine wpAny_bind (wpAny_typeOf hT ?_)
  dsimp only
  have e : (("tuple" : String) == "tuple") = true := by decide
  simp only [e, if_true, Bool.not_true, Bool.false_eq_true, if_false]
  try refine wpAny_bind (wpAny_pure ?_)
  try simp only [Bool.not_true, Bool.false_eq_true, if_false]
  show wpAny _ _ (seqItems? (.ref a) >>= fun _ => _) _ _ s
  refine wpAny_bind (wpAny_seqItems ho hd ?_)
  dsimp only
  refine wpAny_bind ?_
  show wpAny _ _ (forIn vs _ _) _ _ s
  rw [← Array.forIn_toList]
  refine wpAny_forIn_list _ (fun rest r s' => r.1 = none ∧ s' = s ∧ ∀ v ∈ rest, NoB P w (ofAClassStatement n v) s) _ ?_ ?_ _ _ ⟨rfl, rfl, hq⟩
  · rintro v rest r s' ⟨hr, rfl, hall⟩
    refine wpAny_bind (hall v (.head _) _ _ _ ?_)
    simp only [Bool.false_eq_true, if_false]
    exact wpAny_pure ⟨rfl, rfl, fun u hu => hall u (.tail _ hu)⟩
  · rintro ⟨r1, r2⟩ s' ⟨hr, rfl, _⟩
    simp only at hr
    subst hr
    exact wpAny_pure h
theorem ofc_plain {n : Nat} {s : Shared} {v : Value} (h : ∀ a, v ≠ .ref a) : NoB P w (ofAClassStatement n v) s := fun A E Q q => by
  have : ofAClassStatement n v = pure false := by
    cases v with
    | ref a => exact absurd rfl (h a)
    | _ => cases n <;> rfl
  rw [this]
  exact wpAny_pure q
mutual
theorem ofc_key : ∀ (k : NestedKey) (v : Value) (n : Nat) (s : Shared), NestedIs s.heap k v → k.depth ≤ n → NoB P w (ofAClassStatement n v) s
  | .none, _, n, s, x, _ => by cases x; exact ofc_plain fun a z => (by cases z)
  | .num i, _, n, s, x, _ => by cases x <;> exact ofc_plain fun a z => (by cases z)
  | .text y, _, n, s, x, _ => by cases x; exact ofc_plain fun a z => (by cases z)
  | .tup ks, _, n, s, x, hn => by
    cases x with
    | tup ho hc hd hk =>
      simp only [NestedKey.depth] at hn
      cases n with
      | zero => omega
      | succ n => exact ofc_tup ho hc hd (ofc_keys ks _ n s hk (by omega))
theorem ofc_keys : ∀ (ks : List NestedKey) (vs : List Value) (n : Nat) (s : Shared), NestedAll s.heap ks vs → NestedKey.depthAll ks ≤ n → ∀ v ∈ vs, NoB P w (ofAClassStatement n v) s
  | [], _, n, s, x, _, v, hv => by cases x; cases hv
  | k :: ks, _, n, s, x, hn, v, hv => by
    cases x with
    | cons x1 x2 =>
      simp only [NestedKey.depthAll] at hn
      rcases List.mem_cons.mp hv with e | hv
      · rw [e]; exact ofc_key k _ n s x1 (by omega)
      · exact ofc_keys ks _ n s x2 (by omega) v hv
end
theorem seen_key {A : Around} {E : Value → Shared → Prop} {s : Shared} {k : NestedKey} {v : Value} {ys : List Value} {Q : Bool → Shared → Prop} (hx : IsN s.heap k v) (hy : ∀ y ∈ ys, ∃ k', IsN s.heap k' y) (h : Q false s) : wpAny (model P w) A (searchCouldBeSeen v ys) Q E s := by
  unfold searchCouldBeSeen
  refine wpAny_bind ?_
  refine wpAny_forIn_list _ (fun rest r s' => r.1 = none ∧ s' = s ∧ ∀ y ∈ rest, ∃ k', IsN s.heap k' y) _ ?_ ?_ _ _ ⟨rfl, rfl, hy⟩
  · rintro y rest r s' ⟨hr, rfl, hall⟩
    obtain ⟨k', y1, y2, y3⟩ := hall y (.head _)
    have more : ∀ u ∈ rest, ∃ k', IsN s'.heap k' u := fun u hu => hall u (.tail _ hu)
    obtain ⟨⟨va, rfl⟩, x2, x3⟩ := hx
    obtain ⟨ya, rfl⟩ := y1
    dsimp only
    by_cases c : (va == ya || (carriedByValue (.ref va) && carriedByValue (.ref ya))) = true
    · exact wp_if_pos c (wpAny_pure ⟨rfl, rfl, more⟩)
    · refine wp_if_neg c ?_
      refine wpAny_bind (quiet_key k (.ref va) 8 s' x2 x3 _ _ _ ?_)
      simp only [Bool.not_true, Bool.false_eq_true, if_false]
      refine wpAny_bind (quiet_key k' (.ref ya) 8 s' y2 y3 _ _ _ ?_)
      simp only [Bool.not_true, Bool.false_eq_true, if_false]
      refine wpAny_bind (ofc_key k (.ref va) 8 s' x2 x3 _ _ _ ?_)
      simp only [Bool.false_eq_true, if_false]
      refine wpAny_bind (ofc_key k' (.ref ya) 8 s' y2 y3 _ _ _ ?_)
      simp only [Bool.false_eq_true, if_false]
      exact wpAny_pure ⟨rfl, rfl, more⟩
  · rintro ⟨r1, r2⟩ s' ⟨hr, rfl, _⟩
    simp only at hr
    subst hr
    exact wpAny_pure h
theorem sideN : Side P w IsN (NestedKey.hash w) NestedKey.draws where
  mono := fun ⟨h1, h2, h3⟩ k => ⟨h1, NestedIs.at (fun a o _ _ q _ => k a o q) _ _ h2, h3⟩
  addr := fun h => h.1
  hash := fun {A E s k v Q} hu ⟨_, h2, h3⟩ h => pyHash_key _ _ _ _ _ h2 (by omega) h
  same := fun {A E s x y u v Q} hu ⟨_, h2, h3⟩ ⟨_, g2, g3⟩ h => eqAt_key x y A s _ _ h2 g2 (by omega) _ _ _ _ (by rw [← NestedKey.decide_eq]; exact h)
  seen := seen_key
  byv := fun {A E s k v Q} ⟨_, h2, _⟩ h => byv_key k v 8 s h2 A E Q h
end
end Nv

set_option Elab.async false
set_option linter.all false
set_option maxRecDepth 100000
set_option autoImplicit false
set_option maxHeartbeats 1000000
/-! NvTg: targets of assignments. -/
namespace Nv
open PySem PySem.Spec PyProof.Rows L2
/-- what may be stored in this context -/
def Stores (scw : Scope) (X : Cx) : Prop := ∀ x : Str, locB scw x = true → L2.Loc X.env.scope x ∧ (X.fn x = true ∨ X.env.scope.names.lookup x = some .local)
/-- what is given to a target: a value, a list to be unpacked -/
def RVu (K : Kw) (ρ : List Addr) (H : Hp) (tg : Tg) (d : D) (v : V) : Prop := RV K ρ H d v ∨ (tg.isV = false ∧ ∃ ds a vs, d = .lf ds ∧ v = .ref a ∧ SqL K H a vs ∧ RVs K ρ H ds vs)
theorem unl_ok {K : Kw} {ρ : List Addr} {H : Hp} {s : Sto} {tg : Tg} {d : D} {v : V} (rs : RS K ρ H s) (r : RV K ρ H d v) : RVu K ρ H tg (unlD tg s d) v := by
  unfold unlD
  split
  · exact .inl r
  · rename_i ht
    cases d with
    | obj i =>
      simp only
      split
      · rename_i xs e
        have r' := r
        unfold RV at r'
        obtain ⟨a, rfl, ha⟩ := r'
        obtain ⟨p, vs, h1, h2, h3⟩ := rs.lstAt e
        rw [ha] at h1
        cases h1
        exact .inr ⟨by simpa using ht, xs, a, vs, rfl, rfl, SqL.of h2, h3⟩
      · exact .inl r
    | _ => exact .inl r
theorem pg_or {X : Cx} {e : Expr} {t t' : TG} (h : PG X e t) (h' : PG X e t') : PG X e (fun v σ H Q => t v σ H Q ∨ t' v σ H Q) := ⟨fun pins s σ H v u Q I r q => q.elim (h.run pins s σ H v u Q I r) (h'.run pins s σ H v u Q I r)⟩
def tTg (K : Kw) (tg : Tg) : TG := fun v σ H Q => ∃ ρ l s d, RS K ρ H s ∧ RL K ρ H σ l ∧ RVu K ρ H tg d v ∧ ∃ l1, bindT tg d l = some l1 ∧
  ∀ σ' : L2.St, RL K ρ H σ' l1 → (∀ j, j ∉ tg.slots → σ'[j]? = σ[j]?) → σ'.length = σ.length → Q σ' H
def tTgs (K : Kw) (tg : Tg) : TGs := fun vs σ H Q => ∃ ρ l s ds, RS K ρ H s ∧ RL K ρ H σ l ∧ RVs K ρ H ds vs ∧ ∃ l1, bindTs tg ds l = some l1 ∧
  ∀ σ' : L2.St, RL K ρ H σ' l1 → (∀ j, j ∉ tg.slots → σ'[j]? = σ[j]?) → σ'.length = σ.length → Q σ' H
section
variable {X : Cx} {N : List Str} {scw : Scope}
theorem pg_wk {e : Expr} {t t' : TG} (h : PG X e t) (w : ∀ v σ H Q, t' v σ H Q → t v σ H Q) : PG X e t' := ⟨fun pins s σ H v u Q I r q => h.run pins s σ H v u Q I r (w v σ H Q q)⟩
theorem pgs_wk {e : List Expr} {t t' : TGs} (h : PGs X e t) (w : ∀ v σ H Q, t' v σ H Q → t v σ H Q) : PGs X e t' := ⟨fun pins s σ H v u Q I r q => h.run pins s σ H v u Q I r (w v σ H Q q)⟩
theorem RL.set {K : Kw} {ρ : List Addr} {H : Hp} {σ : L2.St} {l : Loc} {i : Nat} {d : D} {v : V} (h : RL K ρ H σ l) (r : RV K ρ H d v) : RL K ρ H (σ.set i (some v)) (l.set i (some d)) := by
  refine ⟨by rw [List.length_set, List.length_set]; exact h.len, fun j x q => ?_⟩
  by_cases hj : i = j
  · subst hj
    have hlt : i < l.length := by
      have := (List.getElem?_eq_some_iff.mp q).1
      rw [List.length_set] at this
      exact this
    rw [List.getElem?_set_self hlt] at q
    cases q
    exact ⟨v, List.getElem?_set_self (by rw [← h.len]; exact hlt), r⟩
  · rw [List.getElem?_set_ne hj] at q
    obtain ⟨w, h1, h2⟩ := h.at_ j x q
    exact ⟨w, by rw [List.getElem?_set_ne hj]; exact h1, h2⟩
theorem ckT_ok {tg : Tg} {e : Expr} (h : ckT N scw tg e = true) : okE e = true := by
  cases e <;> first | rfl | (cases tg <;> exact Bool.noConfusion (show false = true from h))
theorem assignEach_ok {e : Expr} (h : okE e = true) (es : List Expr) (env : Env) : assignEach (e :: es) env = (false, assign e env) :: assignEach es env := by
  cases e <;> first | rfl | cases h
theorem ckTs_cons {tg : Tg} {e : Expr} {es : List Expr} (h : ckTs N scw tg (e :: es) = true) : ∃ a b, tg = .c a b ∧ ckT N scw a e = true ∧ ckTs N scw b es = true := by
  cases tg with
  | c a b =>
    have h' : (ckT N scw a e && ckTs N scw b es) = true := by simpa [ckTs] using h
    rw [Bool.and_eq_true] at h'
    exact ⟨a, b, rfl, h'.1, h'.2⟩
  | v i => simp [ckTs] at h
  | n => simp [ckTs] at h
theorem ckTs_nil {tg : Tg} (h : ckTs N scw tg [] = true) : tg = .n := by
  cases tg with
  | n => rfl
  | v i => simp [ckTs] at h
  | c a b => simp [ckTs] at h
theorem each_len : ∀ {es : List Expr} {tg : Tg}, ckTs N scw tg es = true → (assignEach es X.env).length = es.length ∧ (assignEach es X.env).findIdx? (·.1) = none
  | [], tg, h => ⟨rfl, rfl⟩
  | e :: es, tg, h => by
    obtain ⟨a, b, rfl, h1, h2⟩ := ckTs_cons h
    obtain ⟨i1, i2⟩ := each_len h2
    rw [assignEach_ok (ckT_ok h1)]
    refine ⟨by rw [List.length_cons, List.length_cons, i1], ?_⟩
    rw [List.findIdx?_cons]
    simp [i2]
theorem bindTs_len : ∀ {es : List Expr} {tg : Tg} {ds : List D} {l l1 : Loc}, ckTs N scw tg es = true → bindTs tg ds l = some l1 → ds.length = es.length
  | [], tg, ds, l, l1, h, q => by
    cases ckTs_nil h
    cases ds with
    | nil => rfl
    | cons d r => simp [bindTs] at q
  | e :: es, tg, ds, l, l1, h, q => by
    obtain ⟨a, b, rfl, h1, h2⟩ := ckTs_cons h
    cases ds with
    | nil => simp [bindTs] at q
    | cons d r =>
      have q' : (bindT a d l).bind (bindTs b r) = some l1 := by simpa [bindTs] using q
      obtain ⟨l2, _, q2⟩ := bindo q'
      rw [List.length_cons, List.length_cons, bindTs_len h2 q2]
theorem pg_any (nm : X.N = N) (nd : N.Nodup) (hc : X.calm = true) (hs : Stores scw X) : ∀ tg : Tg, (∀ e, ckT N scw tg e = true → PG X e (tTg X.kw tg)) ∧ (∀ es, ckTs N scw tg es = true → PGs X es (tTgs X.kw tg)) := by
  have tup : ∀ (tg : Tg) (es : List Expr) (kk : Nat) (p : Pos), ckTs N scw tg es = true → PGs X es (tTgs X.kw tg) → (∀ d l l1, bindT tg d l = some l1 → ∃ ds, (d = .tup ds ∨ d = .lf ds) ∧ bindTs tg ds l = some l1) → PG X (.Tuple es kk p) (tTg X.kw tg) := by
    intro tg es kk p h1 h2 h3
    obtain ⟨e1, e2⟩ := each_len (X := X) h1
    refine pg_wk (pg_or (pg_tup hc h2 e1 e2) (pg_unl hc h2 e1 e2)) fun v σ H Q ⟨ρ, l, s, d, rs, rl, rd, l1, hb, q⟩ => ?_
    obtain ⟨ds, hd, hb2⟩ := h3 d l l1 hb
    rcases rd with rd | ⟨_, ds', a, vs, rfl, rfl, g1, g2⟩
    · rcases hd with rfl | rfl
      · obtain ⟨a, vs, rfl, g1, g2⟩ := rv_tup.mp rd
        exact .inl ⟨a, vs, rfl, g1, by rw [g2.length, bindTs_len h1 hb2], ρ, l, s, ds, rs, rl, g2, l1, hb2, q⟩
      · unfold RV at rd
        obtain ⟨a, vs, rfl, g1, g2⟩ := rd
        exact .inr ⟨a, vs, rfl, g1.sql, by rw [g2.length, bindTs_len h1 hb2], ρ, l, s, ds, rs, rl, g2, l1, hb2, q⟩
    · rcases hd with hd | hd
      · cases hd
      · cases hd
        exact .inr ⟨a, vs, rfl, g1, by rw [g2.length, bindTs_len h1 hb2], ρ, l, s, _, rs, rl, g2, l1, hb2, q⟩
  intro tg
  induction tg with
  | v i =>
    refine ⟨fun e h => ?_, fun es h => ?_⟩
    · cases e with
      | Name x p =>
        have h' : (decide (N[i]? = some x) && locB scw x) = true := by simpa [ckT] using h
        rw [Bool.and_eq_true, decide_eq_true_eq] at h'
        obtain ⟨l1, l2⟩ := hs x h'.2
        refine pg_wk (pg_name (i := i) (by rw [nm]; exact nd) (by rw [nm]; exact h'.1) l1 l2) fun v σ H Q ⟨ρ, l, s, d, rs, rl, rd, l1, hb, q⟩ => ?_
        have rd : RV X.kw ρ H d v := by
          rcases rd with rd | ⟨z, _⟩
          · exact rd
          · cases z
        have hb' : (if i < l.length then some (l.set i (some d)) else none) = some l1 := by simpa [bindT] using hb
        split at hb'
        · cases hb'
          refine q _ (rl.set rd) (fun j hj => ?_) (by rw [List.length_set])
          have : i ≠ j := fun z => hj (by rw [z]; simp [Tg.slots])
          rw [List.getElem?_set_ne this]
        · cases hb'
      | _ => simp [ckT] at h
    · cases es with
      | nil => simp [ckTs] at h
      | cons e r => simp [ckTs] at h
  | n =>
    have snd : ∀ es, ckTs N scw .n es = true → PGs X es (tTgs X.kw .n) := fun es h => by
      cases es with
      | cons e r => simp [ckTs] at h
      | nil =>
        refine pgs_wk pgs_nil fun vs σ H Q ⟨ρ, l, s, ds, rs, rl, rd, l1, hb, q⟩ => ?_
        cases ds with
        | cons d r => simp [bindTs] at hb
        | nil =>
          unfold RVs at rd
          have e : l = l1 := by simpa [bindTs] using hb
          subst e
          exact ⟨rd, q σ rl (fun _ _ => rfl) rfl⟩
    refine ⟨fun e h => ?_, snd⟩
    cases e with
    | Tuple es kk p =>
      have h' : ckTs N scw .n es = true := by simpa [ckT] using h
      refine tup .n es kk p h' (snd es h') fun d l l1 q => ?_
      cases d with
      | tup ds => exact ⟨ds, .inl rfl, by simpa [bindT] using q⟩
      | lf ds => exact ⟨ds, .inr rfl, by simpa [bindT] using q⟩
      | _ => simp [bindT] at q
    | _ => simp [ckT] at h
  | c a b iha ihb =>
    have snd : ∀ es, ckTs N scw (.c a b) es = true → PGs X es (tTgs X.kw (.c a b)) := fun es h => by
      cases es with
      | nil => simp [ckTs] at h
      | cons e r =>
        obtain ⟨a', b', e0, h1, h2⟩ := ckTs_cons h
        cases e0
        refine pgs_wk (pgs_cons (iha.1 e h1) (ihb.2 r h2) (by rw [assignEach_ok (ckT_ok h1)]; rfl)) fun vs σ H Q ⟨ρ, l, s, ds, rs, rl, rd, l1, hb, q⟩ => ?_
        cases ds with
        | nil => simp [bindTs] at hb
        | cons d r =>
          have q' : (bindT a d l).bind (bindTs b r) = some l1 := by simpa [bindTs] using hb
          obtain ⟨l2, q1, q2⟩ := bindo q'
          unfold RVs at rd
          obtain ⟨v, vr, rfl, rd1, rd2⟩ := rd
          refine ⟨v, vr, rfl, ρ, l, s, d, rs, rl, .inl rd1, l2, q1, fun σ1 rl1 k1 n1 => ?_⟩
          refine ⟨ρ, l2, s, r, rs, rl1, rd2, l1, q2, fun σ2 rl2 k2 n2 => ?_⟩
          refine q σ2 rl2 (fun j hj => ?_) (n2.trans n1)
          have hj' : j ∉ a.slots ∧ j ∉ b.slots := by
            constructor
            · intro z; exact hj (by simp [Tg.slots, z])
            · intro z; exact hj (by simp [Tg.slots, z])
          rw [k2 j hj'.2, k1 j hj'.1]
    refine ⟨fun e h => ?_, snd⟩
    cases e with
    | Tuple es kk p =>
      have h' : ckTs N scw (.c a b) es = true := by simpa [ckT] using h
      refine tup (.c a b) es kk p h' (snd es h') fun d l l1 q => ?_
      cases d with
      | tup ds => exact ⟨ds, .inl rfl, by simpa [bindT] using q⟩
      | lf ds => exact ⟨ds, .inr rfl, by simpa [bindT] using q⟩
      | _ => simp [bindT] at q
    | _ => simp [ckT] at h
end
end Nv

set_option Elab.async false
set_option linter.all false
set_option maxRecDepth 100000
set_option autoImplicit false
set_option maxHeartbeats 1000000
/-! NvZip: zip of a list or a tuple with a list or a tuple. The flag says: a tuple. -/
namespace Nv
open PySem PySem.Spec PyProof.Rows L2 RT RZ
def SqX (K : PySem.W.Frag) (t : Bool) (H : Hp) (a : Addr) (xs : List V) : Prop := match t with
  | true => SqT K H a xs
  | false => SqL K H a xs
def HsX (t : Bool) (h : Heap) (a : Addr) (items : Array Value) : Prop := match t with
  | true => h.IsTuple a items
  | false => h.IsList a items
def NxX (t : Bool) (h : Heap) (it a : Addr) (i : Nat) : Prop := match t with
  | true => h.IsTupleIter it a i
  | false => h.IsListIter it a i
def itO (t : Bool) (a : Addr) : Obj := match t with
  | true => { cls := .type "tuple_iterator", data := .fields #[.ref a, .int 0 0] }
  | false => { cls := .type "list_iterator", data := .fields #[.ref a, .int 0 0] }
theorem draws_x {prog : Program} {w : World} {A : Around} (hh : A.handled = none) (t : Bool) (it a : Addr) (hne : a ≠ it) (items : Array Value) :
    Draws prog w A it [it, a] items.size (fun i v => items[i]? = some v) (fun i h => NxX t h it a i ∧ HsX t h a items) := by
  cases t
  · exact Draws.list hh it a hne items
  · exact Draws.tuple hh it a hne items
theorem begins_x (t : Bool) (a : Addr) (items : Array Value) : Begins (.ref a) (itO t a) fun h => HsX t h a items := by
  cases t
  · exact begins_list a items
  · exact begins_tuple a items
theorem NxX.new {t : Bool} {h : Heap} {it a : Addr} (e : h.get? it = some (itO t a)) : NxX t h it a 0 := by
  cases t
  · exact ⟨_, e, rfl, rfl⟩
  · exact ⟨_, e, rfl, rfl⟩
theorem NxX.ob {t : Bool} {h : Heap} {it a : Addr} {i : Nat} (e : NxX t h it a i) : ∃ o, h.get? it = some o ∧ ∀ v, o.data ≠ .cell v := by
  cases t
  all_goals
    obtain ⟨o, e1, _, d1⟩ := e
    exact ⟨o, e1, fun v q => by rw [d1] at q; cases q⟩
theorem NxX.at {t : Bool} {h h' : Heap} {it a : Addr} {i : Nat} (e : NxX t h it a i) (k : ∀ o, h.get? it = some o → h'.get? it = some o) : NxX t h' it a i := by
  cases t
  · exact Heap.IsListIter.at e k
  · exact Heap.IsTupleIter.at e k
theorem HsX.lt {t : Bool} {h : Heap} {a : Addr} {items : Array Value} (e : HsX t h a items) : a < h.objs.size := by
  cases t
  · obtain ⟨o, q, _⟩ := e; exact Heap.lt_size q
  · obtain ⟨o, q, _⟩ := e; exact Heap.lt_size q
section
variable {X : Cx} {pins : List (Addr × Obj)} {σ : L2.St} {H : Hp} {s : Shared}
theorem sqx_inv {t : Bool} {a : Addr} {xs : List V} (I : Inv X pins σ H s) (q : SqX X.K t H a xs) : ∃ its : List Value, Vals xs its ∧ HsX t s.heap a its.toArray := by
  cases t
  · obtain ⟨its, rv, p, _⟩ := I.list q
    exact ⟨its, rv, p.isList⟩
  · obtain ⟨its, rv, p, _⟩ := I.tuple q
    exact ⟨its, rv, p⟩
theorem sqx_inj {t : Bool} {a : Addr} {xs ys : List V} (I : Inv X pins σ H s) (q : SqX X.K t H a xs) (r : SqX X.K t H a ys) : xs = ys := by
  cases t
  · exact I.list_inj q r
  · exact I.tuple_inj q r
end
def ItzX (K : PySem.W.Frag) (t1 t2 : Bool) (a b : Addr) : It :=
  ⟨fun i H => ∃ (xs ys : List V) (x y : V), SqX K t1 H a xs ∧ SqX K t2 H b ys ∧ xs[i]? = some x ∧ ys[i]? = some y,
    fun i H v H' => ∃ T x y, v = .ref T ∧ H T = none ∧ H' = upd H T (.tup [x, y]) ∧ (∀ xs, SqX K t1 H a xs → xs[i]? = some x) ∧ ∀ ys, SqX K t2 H b ys → ys[i]? = some y,
    fun i H => ∃ xs ys : List V, SqX K t1 H a xs ∧ SqX K t2 H b ys ∧ i ≤ xs.length ∧ i ≤ ys.length ∧ (i = xs.length ∨ i = ys.length)⟩
theorem turn_zipX {P : Program} {w : World} {K : PySem.W.Frag} {elts : List Expr} {kk : Nat} {tpos : Pos} {t1 t2 : Bool} {a b z TI TO i1 i2 : Addr} (D : ZipSep2 z TI TO i1 i2 [i1, a] [i2, b]) (n1 : a ≠ i1) (n2 : b ≠ i2) :
    Turn P w K (.Tuple elts kk tpos) (ItzX K t1 t2 a b) [z, TI, TO, i1, i2] z (fun i h => IsZip h z TI TO .none ∧ IsTupOf2 h TI (.ref i1) (.ref i2) ∧ (∃ x y, IsTupOf2 h TO x y) ∧ NxX t1 h i1 a i ∧ NxX t2 h i2 b i) where
  mem := by simp
  obj := fun i h st c hc => by
    obtain ⟨hz, hTI, ⟨x, y, hTO⟩, h1, h2⟩ := st
    have e' : c = z ∨ c = TI ∨ c = TO ∨ c = i1 ∨ c = i2 := by simpa using hc
    rcases e' with q | q | q | q | q
    · rw [q]; exact ⟨_, hz, fun v q => nomatch q⟩
    · rw [q]; exact ⟨_, hTI, fun v q => nomatch q⟩
    · rw [q]; exact ⟨_, hTO, fun v q => nomatch q⟩
    · rw [q]; exact h1.ob
    · rw [q]; exact h2.ob
  keep := fun i h h' st k => by
    obtain ⟨hz, hTI, ⟨x, y, hTO⟩, h1, h2⟩ := st
    exact ⟨k z (by simp) _ hz, k TI (by simp) _ hTI, ⟨x, y, k TO (by simp) _ hTO⟩, h1.at fun o q => k i1 (by simp) o q, h2.at fun o q => k i2 (by simp) o q⟩
  item := by
    intro X hP hw hK hc i pins s σ H E I hf st hg
    subst hP hw hK
    obtain ⟨hz, hTI, ⟨x0, y0, hTO⟩, h1, h2⟩ := st
    obtain ⟨xs, ys, x, y, hqx, hqy, hx, hy⟩ := hg
    obtain ⟨its, rv, p⟩ := sqx_inv I hqx
    obtain ⟨its2, rv2, p2⟩ := sqx_inv I hqy
    obtain ⟨u, hu, ru⟩ := rv.get hx
    obtain ⟨u2, hu2, ru2⟩ := rv2.get hy
    have hh : X.A.in1.handled = none := I.ok.hd hc
    have hzl : z < s.heap.objs.size := Heap.lt_size hz
    refine wpAny_pyNext_zipD2_item D (draws_x hh t1 i1 a n1 its.toArray) (draws_x hh t2 i2 b n2 its2.toArray) hz hTI hTO ⟨h1, p⟩ ⟨h2, p2⟩
      (by simpa using (List.getElem?_eq_some_iff.mp hu).1) (by simpa using (List.getElem?_eq_some_iff.mp hu2).1) fun v1 v2 h' tk e1 e2 z' TO' h1' h2' hT hsz hk => ?_
    have e1 : its[i]? = some v1 := by simpa using e1
    have e2 : its2[i]? = some v2 := by simpa using e2
    rw [hu] at e1
    rw [hu2] at e2
    cases e1
    cases e2
    refine ⟨_, rfl, wpAny_letOwnedTupleGo_zip (s := { s with heap := h', toks := tk }) z' fun h'' z'' sb => ?_⟩
    have hT2 : h''.get? s.heap.objs.size = some { cls := .type "tuple", data := .seq #[u, u2] } := (sb.2 _ (Nat.ne_of_gt hzl)).trans hT
    have new : ObjOk X.prog X.w (upd H s.heap.objs.size (.tup [x, y])) h'' s.heap.objs.size (.tup [x, y]) :=
      ⟨by show 2 ≤ sizeLine; decide, [u, u2], .cons ru (.cons ru2 .nil), ⟨_, hT2, rfl, _, rfl⟩⟩
    have I1 : Inv X pins σ (upd H s.heap.objs.size (.tup [x, y])) { s with heap := h'', toks := tk } :=
      I.turnedNew (t' := tk) (ch := [z, TI, TO, i1, i2]) (fun c o hb q => (sb.2 c (fun q' => hb (by simp [q']))).trans (hk c o (fun q' => hb (by simp [q'])) (fun q' => hb (by simp [q'])) (fun q' => hb (by simp [q'])) (fun q' => hb (by simp [q'])) q)) hf (Nat.le_refl _) new
    refine ⟨.ref s.heap.objs.size, _, I1, rfl, ⟨_, x, y, rfl, I.hok.fresh (Nat.le_refl _), rfl, fun l hl => by rw [sqx_inj I hl hqx]; exact hx, fun l hl => by rw [sqx_inj I hl hqy]; exact hy⟩, ⟨z'', ?_, ⟨u, u2, ?_⟩, ?_, ?_⟩, fun c hcm => ?_⟩
    · exact (sb.2 _ D.TIz).trans (hk _ _ D.TIz D.TITO D.TIi1 D.TIi2 hTI)
    · exact (sb.2 _ D.TOz).trans TO'
    · exact h1'.1.at fun o q => (sb.2 _ D.zi1.symm).trans q
    · exact h2'.1.at fun o q => (sb.2 _ D.zi2.symm).trans q
    · have hlt : c < s.heap.objs.size := by
        have e' : c = z ∨ c = TI ∨ c = TO ∨ c = i1 ∨ c = i2 := by simpa using hcm
        rcases e' with q | q | q | q | q
        · rw [q]; exact hzl
        · rw [q]; exact Heap.lt_size hTI
        · rw [q]; exact Heap.lt_size hTO
        · rw [q]; obtain ⟨_, e1, _⟩ := h1.ob; exact Heap.lt_size e1
        · rw [q]; obtain ⟨_, e2, _⟩ := h2.ob; exact Heap.lt_size e2
      rw [upd_ne (Nat.ne_of_lt hlt)]
      exact (hf c hcm).1
  done := by
    intro X hP hw hK hc i pins s σ H E I hf st hg
    subst hP hw hK
    obtain ⟨hz, hTI, ⟨x0, y0, hTO⟩, h1, h2⟩ := st
    obtain ⟨xs, ys, hqx, hqy, le1, le2, hend⟩ := hg
    obtain ⟨its, rv, p⟩ := sqx_inv I hqx
    obtain ⟨its2, rv2, p2⟩ := sqx_inv I hqy
    have l1 := rv.length
    have l2 := rv2.length
    have hh : X.A.in1.handled = none := I.ok.hd hc
    exact wpAny_pyNext_zipD2_end D (draws_x hh t1 i1 a n1 its.toArray) (draws_x hh t2 i2 b n2 its2.toArray) hz hTI hTO ⟨h1, p⟩ ⟨h2, p2⟩ (by simp; omega) (by simp; omega) (by simp; omega)
      fun h' tk hk => ⟨rfl, I.turnedL (t' := tk) (ch := [z, TI, TO, i1, i2]) (fun c o hb q =>
      hk c o (fun q' => hb (by simp [q'])) (fun q' => hb (by simp [q'])) (fun q' => hb (by simp [q'])) (fun q' => hb (by simp [q'])) q) hf⟩
  self := fun A i s Q E st h => wpAny_pyIter_zip st.1 h
def iZipX (K : PySem.W.Frag) (ta : TA) : TI := fun σ H R => ta σ H fun vs H1 => ∃ a b t1 t2 xs ys, vs = [.ref a, .ref b] ∧ SqX K t1 H1 a xs ∧ SqX K t2 H1 b ys ∧ R (ItzX K t1 t2 a b) H1
theorem pi_zipX {X : Cx} {e e2 : Expr} {ta : TA} {p pos tpos : Pos} {elts : List Expr} {kk : Nat} (hg : Gl X "zip") (hm : X.mg "zip" = none) (ha : PA X [e, e2] ta)
    (hs : starEach [e, e2] X.env = (false, eval e X.env) :: starEach [e2] X.env := by rfl) (hpl : (backTo pos (starEach [e2] X.env)).any (·.1) = false := by rfl) :
    PI X (.Tuple elts kk tpos) (.Call (.Name "zip" p) [e, e2] [] pos) (iZipX X.K ta) := by
  refine ⟨fun pins s σ H R I h => ?_⟩
  refine Call_ (ld_blt I hg hm PyProof.Rows.boot_zip (PyProof.Rows.callWith_type1 (thn (ha.run pos pins s σ H _ I h) fun us s1 ⟨vs, H1, I1, r1, q1⟩ => ?_) hs hpl))
  obtain ⟨a, b, t1, t2, xs, ys, ex, hqx, hqy, q⟩ := q1
  subst ex
  cases r1 with
  | cons r rr =>
    cases rr with
    | cons r' rr =>
      cases rr
      cases r
      cases r'
      obtain ⟨its, rv, p1⟩ := sqx_inv I1 hqx
      obtain ⟨its2, rv2, p2⟩ := sqx_inv I1 hqy
      have la : a < s1.heap.objs.size := p1.lt
      have lb : b < s1.heap.objs.size := p2.lt
      refine zip_begins2 (begins_x t1 a its.toArray) (begins_x t2 b its2.toArray) p1 p2 fun h' hz hTI hTO h1 h2 hsz hk => wpAny_pyIter_zip hz ?_
      have I2 : Inv X pins σ H1 { s1 with heap := h' } := I1.kept (t' := s1.toks) hk
      refine ⟨s1.heap.objs.size + 4, [s1.heap.objs.size + 4, s1.heap.objs.size + 2, s1.heap.objs.size + 3, s1.heap.objs.size, s1.heap.objs.size + 1], _, _, H1, rfl, I2, turn_zipX (t1 := t1) (t2 := t2) (zip_sep2 (fp1 := [a]) (fp2 := [b]) (by simpa using la) (by simpa using lb)) (Nat.ne_of_lt la) (Nat.ne_of_lt (Nat.lt_succ_of_lt lb)), ⟨hz, hTI, ⟨_, _, hTO⟩, .new h1, .new h2⟩, fun c hcm => ?_, q⟩
      have e' : c = s1.heap.objs.size + 4 ∨ c = s1.heap.objs.size + 2 ∨ c = s1.heap.objs.size + 3 ∨ c = s1.heap.objs.size ∨ c = s1.heap.objs.size + 1 := by simpa using hcm
      have hle : s1.heap.objs.size ≤ c := by
        rcases e' with z | z | z | z | z
        · rw [z]; exact Nat.le_add_right _ _
        · rw [z]; exact Nat.le_add_right _ _
        · rw [z]; exact Nat.le_add_right _ _
        · rw [z]; exact Nat.le_refl _
        · rw [z]; exact Nat.le_add_right _ _
      exact I1.fpOk hle (I1.hok.fresh hle)
end Nv

set_option Elab.async false
set_option linter.all false
set_option maxRecDepth 100000
set_option autoImplicit false
set_option maxHeartbeats 1000000
/-! NvEnum: enumerate of a tuple, of a list. -/
namespace Nv
open PySem PySem.Spec PyProof.Rows L2 RT RZ
theorem meets_enum_new1 {v : Value} {o : Obj} {H : Heap → Prop} (B : Begins v o H) :
    Meets (Builtin.«enumerate.__new__» ⟨[.type "enumerate", v], []⟩) (fun _ R s => H s.heap ∧
      R (.ok (.ret (.ref (s.heap.push o).objs.size))) { s with heap := (s.heap.push o).push { cls := .type "enumerate", data := .fields #[.none, .bool false, .ref s.heap.objs.size, rawInt 0, .none, .none] } }) :=
  .of_wp fun prog w A R s h => by
    obtain ⟨hp, g, d, tk, os⟩ := s; obtain ⟨h1, h⟩ := h
    have hsub := sub_enumerate
    have q1 : ∀ {A' : Around} {E : Value → Shared → Prop} {Q : Value → Shared → Prop}, Q (.ref hp.objs.size) ⟨hp.push o, g, d, tk, os⟩ → wpAny (model prog w) A' (pyIter v) Q E ⟨hp, g, d, tk, os⟩ :=
      fun q => B.iter prog w _ _ ⟨hp, g, d, tk, os⟩ _ h1 q
    wp_walk using q1
    refine wpAny_stack_any fun st => wpAny_pure ?_
    split
    · rename_i c _ _ _ _ _
      cases (c == Value.type "enumerate")
      · wp_walk using q1
        exact ⟨_, rfl, h⟩
      · wp_walk using q1
        exact ⟨_, rfl, h⟩
    · wp_walk using q1
      exact ⟨_, rfl, h⟩
section
variable {prog : Program} {w : World} {A : Around} {E : Value → Shared → Prop} {s : Shared}
theorem enum_begins1 {v : Value} {o : Obj} {H : Heap → Prop} {Q : Value → Shared → Prop} (B : Begins v o H) (h1 : H s.heap)
    (h : ∀ h', IsEnum h' (s.heap.objs.size + 1) s.heap.objs.size 0 .none → h'.get? s.heap.objs.size = some o → h'.objs.size = s.heap.objs.size + 2 →
      (∀ b o, s.heap.get? b = some o → h'.get? b = some o) → Q (.ref (s.heap.objs.size + 1)) { s with heap := h' }) :
    wpAny (model prog w) A (call (.type "enumerate") [v]) Q E s := by
  refine callType_new F.called_enumerate (by decide) (F.typeCall_enumerate_1 _) (F.newCall_enumerate_1 _) (fun obj => F.args_object_init_2 obj _) F.entry_enumerate_new
    (meets_enum_new1 B) ⟨h1, ?_⟩
  have hz : (s.heap.push o).objs.size = s.heap.objs.size + 1 := Heap.size_push ..
  show _ ∧ _
  rw [hz]
  have he : IsEnum ((s.heap.push o).push { cls := .type "enumerate", data := .fields #[.none, .bool false, .ref s.heap.objs.size, rawInt 0, .none, .none] }) (s.heap.objs.size + 1) s.heap.objs.size 0 .none := by
    have := Heap.get?_push_size (s.heap.push o) (o := { cls := .type "enumerate", data := .fields #[.none, .bool false, .ref s.heap.objs.size, rawInt 0, .none, .none] }) rfl
    rw [hz] at this; exact this
  refine ⟨⟨_, he, rfl⟩, h _ he (Heap.get?_push_of_some _ (Heap.get?_push_size _ B.free)) (by rw [Heap.size_push, hz]) fun b o x => Heap.get?_push_of_some _ (Heap.get?_push_of_some _ x)⟩
end
/-- the tuple at a, each item in a new pair -/
def IteT (K : PySem.W.Frag) (a : Addr) : It :=
  ⟨fun i H => ∃ (xs : List V) (x : V), SqT K H a xs ∧ xs[i]? = some x, fun i H v H' => ∃ T x, v = .ref T ∧ H T = none ∧ H' = upd H T (.tup [.int (i : Nat), x]) ∧ ∀ xs, SqT K H a xs → xs[i]? = some x, fun i H => ∃ xs : List V, SqT K H a xs ∧ xs.length = i⟩
theorem turn_enumT {P : Program} {w : World} {K : PySem.W.Frag} {elts : List Expr} {kk : Nat} {tpos : Pos} {a e it : Addr} (n1 : a ≠ it) (n2 : a ≠ e) :
    Turn P w K (.Tuple elts kk tpos) (IteT K a) [e, it] e (fun i h => (∃ old, IsEnum h e it ((i : Nat) : Int) old) ∧ h.IsTupleIter it a i ∧ e ≠ it) where
  mem := by simp
  obj := fun i h st b hb => by
    obtain ⟨⟨old, he⟩, ⟨o, ho, hc, hd⟩, _⟩ := st
    have e' : b = e ∨ b = it := by simpa using hb
    rcases e' with z | z
    · rw [z]; exact ⟨_, he, fun v q => nomatch q⟩
    · rw [z]; exact ⟨o, ho, fun v q => by rw [hd] at q; cases q⟩
  keep := fun i h h' st k => let ⟨⟨old, he⟩, hi, hne⟩ := st; ⟨⟨old, k e (by simp) _ he⟩, Heap.IsTupleIter.at hi fun o q => k it (by simp) o q, hne⟩
  item := by
    intro X hP hw hK hc i pins s σ H E I hf st hg
    subst hP hw hK
    obtain ⟨⟨old, he⟩, hit, hne⟩ := st
    obtain ⟨xs, x, hq, hx⟩ := hg
    obtain ⟨its, rv, p, hz⟩ := I.tuple hq
    obtain ⟨u, hu, ru⟩ := rv.get hx
    have hel : e < s.heap.objs.size := Heap.lt_size he
    have hh : X.A.in1.handled = none := I.ok.hd hc
    refine wpAny_pyNext_enum_itemD (draws_x hh true it a n1 its.toArray) he ⟨hit, p⟩ (by simpa using (List.getElem?_eq_some_iff.mp hu).1) hne (by simp [hne, Ne.symm n2]) fun v h' tk e1 ho hit' hT hsz hk => ?_
    have e1 : its[i]? = some v := by simpa using e1
    rw [hu] at e1
    cases e1
    refine ⟨_, rfl, wpAny_letOwnedTupleGo_enum (s := { s with heap := h', toks := tk + 1 }) ho fun h'' he' sb => ?_⟩
    have hT2 : h''.get? s.heap.objs.size = some { cls := .type "tuple", data := .seq #[.int i tk, u] } := (sb.2 _ (Nat.ne_of_gt hel)).trans hT
    have new : ObjOk X.prog X.w (upd H s.heap.objs.size (.tup [.int (i : Nat), x])) h'' s.heap.objs.size (.tup [.int (i : Nat), x]) :=
      ⟨by show 2 ≤ sizeLine; decide, [.int i tk, u], .cons ⟨_, rfl⟩ (.cons ru .nil), ⟨_, hT2, rfl, _, rfl⟩⟩
    have I1 : Inv X pins σ (upd H s.heap.objs.size (.tup [.int (i : Nat), x])) { s with heap := h'', toks := tk + 1 } :=
      I.turnedNew (t' := tk + 1) (ch := [e, it]) (fun b ob hb q => (sb.2 b (fun z => hb (by simp [z]))).trans (hk b ob (fun z => hb (by simp [z])) (fun z => hb (by simp [z])) q)) hf (Nat.le_refl _) new
    refine ⟨.ref s.heap.objs.size, _, I1, rfl, ⟨_, x, rfl, I.hok.fresh (Nat.le_refl _), rfl, fun ys hy => by rw [I.tuple_inj hy hq]; exact hx⟩, ⟨⟨u, ?_⟩, Heap.IsTupleIter.at hit'.1 fun o q => (sb.2 it (Ne.symm hne)).trans q, hne⟩, fun b hb => ?_⟩
    · have e1 : ((i + 1 : Nat) : Int) = (i : Int) + 1 := by omega
      rw [e1]; exact he'
    · have hil : it < s.heap.objs.size := by obtain ⟨_, q, _⟩ := hit; exact Heap.lt_size q
      have hb' : b < s.heap.objs.size := by
        have e' : b = e ∨ b = it := by simpa using hb
        rcases e' with z | z
        · rw [z]; exact hel
        · rw [z]; exact hil
      rw [upd_ne (Nat.ne_of_lt hb')]
      exact (hf b hb).1
  done := by
    intro X hP hw hK hc i pins s σ H E I hf st hg
    subst hP hw hK
    obtain ⟨⟨old, he⟩, hit, hne⟩ := st
    obtain ⟨xs, hq, hx⟩ := hg
    obtain ⟨its, rv, p, hz⟩ := I.tuple hq
    have hl := rv.length
    have hi : i = its.toArray.size := by simp; omega
    have hh : X.A.in1.handled = none := I.ok.hd hc
    rw [hi] at he hit
    refine wpAny_pyNext_enum_endD (draws_x hh true it a n1 its.toArray) he ⟨hit, p⟩ fun h' eb => ⟨rfl, ?_⟩
    obtain ⟨f0, f1, f2, f3, f4, f5⟩ := hf it (by simp)
    exact I.turned (t' := s.toks) (fun b o hb q => eb b o hb q) f0 f1 f3 f4 f5
  self := fun A i s Q E st h => let ⟨⟨_, he⟩, _⟩ := st; wpAny_pyIter_enum he h
def iEnumX (K : PySem.W.Frag) (ta : TA) : TI := fun σ H R => ta σ H fun vs H1 => ∃ a xs, vs = [.ref a] ∧ ((SqL K H1 a xs ∧ R (Ite K a) H1) ∨ (SqT K H1 a xs ∧ R (IteT K a) H1))
theorem pi_enumX {X : Cx} {e : Expr} {ta : TA} {p pos tpos : Pos} {elts : List Expr} {kk : Nat} (hg : Gl X "enumerate") (hm : X.mg "enumerate" = none) (ha : PA X [e] ta) (hs : starEach [e] X.env = [(false, eval e X.env)] := by rfl) :
    PI X (.Tuple elts kk tpos) (.Call (.Name "enumerate" p) [e] [] pos) (iEnumX X.K ta) := by
  refine ⟨fun pins s σ H R I h => ?_⟩
  refine Call_ (ld_blt I hg hm boot_enumerate (PyProof.Rows.callWith_type1 (thn (ha.run pos pins s σ H _ I h) fun us s1 ⟨vs, H1, I1, r1, q1⟩ => ?_) hs rfl))
  obtain ⟨a, xs, ex, q1⟩ := q1
  subst ex
  cases r1 with
  | cons r rr =>
    cases rr
    cases r
    have fp : ∀ (h' : Heap), ∀ b ∈ [s1.heap.objs.size + 1, s1.heap.objs.size], s1.heap.objs.size ≤ b := fun h' b hb => by
      have e' : b = s1.heap.objs.size + 1 ∨ b = s1.heap.objs.size := by simpa using hb
      rcases e' with z | z
      · rw [z]; exact Nat.le_add_right _ _
      · rw [z]; exact Nat.le_refl _
    rcases q1 with ⟨hq, q⟩ | ⟨hq, q⟩
    · obtain ⟨its, rv, p', hz⟩ := I1.list hq
      refine call_enumerate_list p'.isList fun h' he hit hsz hk => wpAny_pyIter_enum he ?_
      have I2 : Inv X pins σ H1 { s1 with heap := h' } := I1.kept (t' := s1.toks) hk
      exact ⟨s1.heap.objs.size + 1, [s1.heap.objs.size + 1, s1.heap.objs.size], _, _, H1, rfl, I2, turn_enum a (s1.heap.objs.size + 1) s1.heap.objs.size, ⟨⟨.none, he⟩, hit, Nat.succ_ne_self _⟩, fun b hb => I1.fpOk (fp h' b hb) (I1.hok.fresh (fp h' b hb)), q⟩
    · obtain ⟨its, rv, p', hz⟩ := I1.tuple hq
      have ha2 : a < s1.heap.objs.size := by obtain ⟨_, q, _⟩ := p'; exact Heap.lt_size q
      refine enum_begins1 (begins_tuple a its.toArray) p' fun h' he hit hsz hk => wpAny_pyIter_enum he ?_
      have I2 : Inv X pins σ H1 { s1 with heap := h' } := I1.kept (t' := s1.toks) hk
      exact ⟨s1.heap.objs.size + 1, [s1.heap.objs.size + 1, s1.heap.objs.size], _, _, H1, rfl, I2, turn_enumT (Nat.ne_of_lt ha2) (Nat.ne_of_lt (Nat.lt_succ_of_lt ha2)), ⟨⟨.none, he⟩, ⟨_, hit, rfl, rfl⟩, Nat.succ_ne_self _⟩, fun b hb => I1.fpOk (fp h' b hb) (I1.hok.fresh (fp h' b hb)), q⟩
end Nv

set_option Elab.async false
set_option linter.all false
set_option maxRecDepth 100000
set_option autoImplicit false
set_option maxHeartbeats 4000000
/-! NvSnd: each expression of the text keeps what the interpreter says of its term. -/
namespace Nv
open PySem PySem.Spec PyProof.Rows L2 RT RZ
section
variable {T : Tab} {cf : Nat → List D → Sto → Res RD} {k : Nat} {N : List Str}
def SE (T : Tab) (cf : Nat → List D → Sto → Res RD) (k : Nat) (N : List Str) (t : Ex) : Prop :=
  ∀ (X : Cx) (sc : Scope) (W : WX) (e : Expr), Good T cf k N sc X W → (ck T N t).e sc e = true → SndE X (wS X.mg W) e t.tupIt (den cf T.gc t)
def SA (T : Tab) (cf : Nat → List D → Sto → Res RD) (k : Nat) (N : List Str) (t : Ex) : Prop :=
  ∀ (X : Cx) (sc : Scope) (W : WX) (es : List Expr), Good T cf k N sc X W → (ck T N t).l sc es = true → SndA X (wS X.mg W) es (den cf T.gc t).vs
theorem post_ite {α β : Type} {K : Kw} {W : Wx} {R : Hp → List Addr → Hp → α → β → Prop} {ρ : List Addr} {H : Hp} {Q : β → Hp → Prop} {c : Prop} {inst : Decidable c} {r : Res α} (h : Post K W R ρ H Q (if c then r else .no)) : c ∧ Post K W R ρ H Q r := by
  split at h
  · rename_i hc; exact ⟨hc, h⟩
  · exact h.elim
theorem and2 {a b : Bool} (h : (a && b) = true) : a = true ∧ b = true := by rwa [Bool.and_eq_true] at h
/-! leaves -/
theorem s_var (i : Nat) : SE T cf k N (.var i) := by
  intro X sc W e g h
  simp only [ck] at h
  split at h
  · rename_i x p
    obtain ⟨h, h4⟩ := and2 h
    obtain ⟨h, h3⟩ := and2 h
    obtain ⟨h1, h2⟩ := and2 h
    refine snd_mkR rfl rfl (pe_wk (pe_var (i := i) (by rw [g.nm]; exact of_decide_eq_true h1) (by rw [g.sc]; exact vis_of h2) (by simpa using h3) (by simpa using h4)) fun σ H Q ⟨ρ, l, s, rs, rl, hp⟩ => ?_)
    have hp : Post X.kw _ (rRR X.kw) ρ H Q (match l[i]? with | some (some d) => .ok (.d d) s | _ => .no) := hp
    split at hp
    · rename_i d hd
      obtain ⟨v, h5, h6⟩ := rl.at_ i d hd
      exact ⟨v, h5, post_val rs hp h6⟩
    · exact hp.elim
  · cases h
theorem s_int (z : Int) : SE T cf k N (.int z) := by
  intro X sc W e g h
  simp only [ck] at h
  split at h
  · cases of_decide_eq_true h
    exact snd_mkR rfl rfl (pe_wk pe_int fun σ H Q ⟨ρ, l, s, rs, rl, hp⟩ => post_val rs hp (rv_int.mpr rfl))
  · cases h
theorem s_str (z : Str) : SE T cf k N (.str z) := by
  intro X sc W e g h
  simp only [ck] at h
  split at h
  · cases of_decide_eq_true h
    exact snd_mkR rfl rfl (pe_wk pe_str fun σ H Q ⟨ρ, l, s, rs, rl, hp⟩ => post_val rs hp (rv_str.mpr rfl))
  · cases h
theorem s_bl (z : Bool) : SE T cf k N (.bl z) := by
  intro X sc W e g h
  simp only [ck] at h
  split at h
  · cases of_decide_eq_true h
    exact snd_mkR rfl rfl (pe_wk pe_bl fun σ H Q ⟨ρ, l, s, rs, rl, hp⟩ => post_val rs hp (rv_bl.mpr rfl))
  · cases h
theorem s_non : SE T cf k N .non := by
  intro X sc W e g h
  simp only [ck] at h
  split at h
  · exact snd_mkR rfl rfl (pe_wk pe_non fun σ H Q ⟨ρ, l, s, rs, rl, hp⟩ => post_val rs hp (rv_non.mpr rfl))
  · cases h
theorem s_gc (j : Nat) : SE T cf k N (.gc j) := by
  intro X sc W e g h
  simp only [ck] at h
  split at h
  · rename_i x p
    obtain ⟨h1, h2⟩ := and2 h
    obtain ⟨g1, g2, _⟩ := g.gl h2
    obtain ⟨⟨y, d⟩, h3, h4⟩ := Option.map_eq_some_iff.mp (of_decide_eq_true h1)
    have h4 : y = x := h4
    subst h4
    obtain ⟨u, v, h5, h6, h7⟩ := g.con j y d h3
    refine snd_mkR rfl rfl (pe_wk (pe_glob g1 h5 h6 g2) fun σ H Q ⟨ρ, l, s, rs, rl, hp⟩ => ?_)
    have hp : Post X.kw _ (rRR X.kw) ρ H Q (ofO ((T.gc j).map .d) s) := hp
    have e : T.gc j = some d := by unfold Tab.gc; rw [h3]; rfl
    rw [e] at hp
    exact post_val rs hp (h7 ρ H)
  · cases h
/-! lists of expressions -/
theorem s_nil : SA T cf k N .nil := by
  intro X sc W es g h
  simp only [ck] at h
  split at h
  · refine ⟨pa_wk pa_nil fun σ H Q ⟨ρ, l, s, rs, rl, hp⟩ => ?_, fun _ => rfl, fun e r q => by cases q⟩
    have hp : Post X.kw _ (rRVs X.kw) ρ H Q (.ok [] s) := hp
    exact hp ρ H [] .refl rs .nil_
  · cases h
theorem s_cons {a b : Ex} (ha : SE T cf k N a) (hb : SA T cf k N b) : SA T cf k N (.cons a b) := by
  intro X sc W es g h
  simp only [ck] at h
  split at h
  · rename_i e r
    obtain ⟨h1, h2⟩ := and2 h
    have sa := ha X sc W e g h1
    have sb := hb X sc W r g h2
    refine ⟨pa_wk (pa_cons sa.v sb.a (ok_star sa.ok r X.env)) fun σ H Q ⟨ρ, l, s, rs, rl, hp⟩ => ?_, fun pos => ?_, fun e' r' q => by cases q; exact sa.ok⟩
    · have hp : Post X.kw _ (rRVs X.kw) ρ H Q (((den cf T.gc a).v l s).bind fun x s1 => ((den cf T.gc b).vs l s1).bind fun xs s2 => .ok (x :: xs) s2) := hp
      refine ⟨ρ, l, s, rs, rl, hp.bind bkRVs fun x s1 ρ1 H1 v1 e1 rs1 r1 h1 => ⟨ρ1, l, s1, rs1, rl.mono e1, h1.bind bkRVs fun xs s2 ρ2 H2 v2 e2 rs2 r2 h2 => ?_⟩⟩
      exact h2 ρ2 H2 _ .refl rs2 (.cons_ (RV.mono e2 _ _ r1) r2)
    · rw [ok_star sa.ok r X.env]
      show (false || (backTo pos (starEach r X.env)).any (·.1)) = false
      rw [sb.pl pos]
      rfl
  · cases h
theorem s_tup {a : Ex} (ha : SA T cf k N a) : SE T cf k N (.tup a) := by
  intro X sc W e g h
  simp only [ck] at h
  split at h
  · rename_i xs kk p
    have sa := ha X sc W xs g h
    refine snd_mkR rfl rfl (pe_wk (pe_tup sa.a) fun σ H Q ⟨ρ, l, s, rs, rl, hp⟩ => ?_)
    have hp : Post X.kw _ (rRR X.kw) ρ H Q (((den cf T.gc a).vs l s).bind fun xs s1 => if xs.length ≤ sizeLine then .ok (.d (.tup xs)) s1 else .no) := hp
    refine ⟨ρ, l, s, rs, rl, hp.bind bkRR fun ds s1 ρ1 H1 vs e1 rs1 r1 h1 => ?_⟩
    obtain ⟨c, h2⟩ := post_ite h1
    exact ⟨by rw [r1.length]; exact c, fun q hq => post_tup rs1 r1 h2 hq⟩
  · cases h
theorem s_lst {a : Ex} (ha : SA T cf k N a) : SE T cf k N (.lst a) := by
  intro X sc W e g h
  simp only [ck] at h
  split at h
  · rename_i xs p
    have sa := ha X sc W xs g h
    refine snd_mkR rfl rfl (pe_wk (pe_lst sa.a) fun σ H Q ⟨ρ, l, s, rs, rl, hp⟩ => ?_)
    have hp : Post X.kw _ (rRR X.kw) ρ H Q (((den cf T.gc a).vs l s).bind fun xs s1 => if xs.length ≤ sizeLine then .ok (.l xs) s1 else .no) := hp
    refine ⟨ρ, l, s, rs, rl, hp.bind bkRR fun ds s1 ρ1 H1 vs e1 rs1 r1 h1 => ?_⟩
    obtain ⟨c, h2⟩ := post_ite h1
    exact ⟨by rw [r1.length]; exact c, fun q hq => post_laid rs1 r1 h2 hq⟩
  · cases h
/-! operators -/
theorem s_bin {o : Bop} {a b : Ex} (ha : SE T cf k N a) (hb : SE T cf k N b) : SE T cf k N (.bin o a b) := by
  intro X sc W e g h
  simp only [ck] at h
  split at h
  · rename_i x op y p
    obtain ⟨h, h3⟩ := and2 h
    obtain ⟨h1, h2⟩ := and2 h
    cases of_decide_eq_true h1
    have sa := ha X sc W x g h2
    have sb := hb X sc W y g h3
    refine snd_mkR rfl rfl (pe_wk (pe_op (op_bin (W := W0) o) sa.r sb.r) fun σ H Q ⟨ρ, l, s, rs, rl, hp⟩ => ?_)
    exact ⟨ρ, l, s, rs, rl, Post.bind bkRR hp fun x s1 ρ1 H1 v1 e1 rs1 r1 h1 => ⟨ρ1, l, s1, rs1, rl.mono e1, Post.bind bkRR h1 fun y s2 ρ2 H2 v2 e2 rs2 r2 h2 => ⟨H, H1, ρ2, s2, x, y, rs2, RR.mono e2 r1, r2, post_w h2⟩⟩⟩
  · cases h
theorem s_neg {a : Ex} (ha : SE T cf k N a) : SE T cf k N (.neg a) := by
  intro X sc W e g h
  simp only [ck] at h
  split at h
  · rename_i x p
    have sa := ha X sc W x g h
    refine snd_mkR rfl rfl (pe_wk (pe_un un_neg sa.r) fun σ H Q ⟨ρ, l, s, rs, rl, hp⟩ => ?_)
    refine ⟨ρ, l, s, rs, rl, Post.bind bkRR hp fun x s1 ρ1 H1 v1 e1 rs1 r1 h1 => ?_⟩
    split at h1
    · exact ⟨_, rr_int r1, post_val rs1 h1 (rv_int.mpr rfl)⟩
    · exact h1.elim
  · cases h
theorem s_nt {a : Ex} (ha : SE T cf k N a) : SE T cf k N (.nt a) := by
  intro X sc W e g h
  simp only [ck] at h
  split at h
  · rename_i x p
    have sa := ha X sc W x g h
    refine snd_mkB rfl (pe_wk (pe_not sa.r) fun σ H Q ⟨ρ, l, s, rs, rl, hp⟩ => ?_) (pt_wk (pt_not sa.b) fun σ H Q ⟨ρ, l, s, rs, rl, hp⟩ => ?_) fun op xs p q => by cases q
    · refine ⟨ρ, l, s, rs, rl, Post.bind bkRR hp fun x s1 ρ1 H1 v1 e1 rs1 r1 h1 => ?_⟩
      split at h1
      · exact ⟨_, rr_bl r1, post_val rs1 h1 (rv_bl.mpr rfl)⟩
      · exact h1.elim
    · exact ⟨ρ, l, s, rs, rl, Post.bind bkB hp fun x s1 ρ1 H1 v1 e1 rs1 r1 h1 => by cases r1; exact h1 ρ1 H1 _ .refl rs1 rfl⟩
  · cases h
theorem s_cmp {o : Cop} {a b : Ex} (ha : SE T cf k N a) (hb : SE T cf k N b) : SE T cf k N (.cmp o a b) := by
  intro X sc W e g h
  simp only [ck] at h
  split at h
  · rename_i x op y p
    obtain ⟨h, h3⟩ := and2 h
    obtain ⟨h1, h2⟩ := and2 h
    cases of_decide_eq_true h1
    have sa := ha X sc W x g h2
    have sb := hb X sc W y g h3
    refine snd_mkB rfl (pe_wk (pe_cmpR (op_cmp o g.hu) sa.r sb.r (ok_mark sb.ok _)) fun σ H Q ⟨ρ, l, s, rs, rl, hp⟩ => ?_) (pt_wk (pt_cmpR (op_cmp o g.hu) sa.r sb.r (ok_mark sb.ok _)) fun σ H Q ⟨ρ, l, s, rs, rl, hp⟩ => ?_) fun op xs p q => by cases q
    · refine ⟨ρ, l, s, rs, rl, Post.bind bkRR hp fun x s1 ρ1 H1 v1 e1 rs1 r1 h1 => ⟨ρ1, l, s1, rs1, rl.mono e1, Post.bind bkRR h1 fun y s2 ρ2 H2 v2 e2 rs2 r2 h2 => ?_⟩⟩
      obtain ⟨d, e3, h3⟩ := post_o h2
      obtain ⟨t, e4, e5⟩ := Option.map_eq_some_iff.mp e3
      cases e5
      exact ⟨H, H1, ρ2, s2, x, y, t, rs2, RR.mono e2 r1, r2, e4, post_val rs2 h3 (rv_bl.mpr rfl)⟩
    · refine ⟨ρ, l, s, rs, rl, Post.bind bkB hp fun x s1 ρ1 H1 v1 e1 rs1 r1 h1 => ⟨ρ1, l, s1, rs1, rl.mono e1, Post.bind bkB h1 fun y s2 ρ2 H2 v2 e2 rs2 r2 h2 => ?_⟩⟩
      cases e4 : cmpR o s2 x y with
      | none => rw [e4] at h2; exact h2.elim
      | some t =>
        rw [e4] at h2
        exact ⟨H, H1, ρ2, s2, x, y, t, rs2, RR.mono e2 r1, r2, e4, t, rfl, h2 ρ2 H2 t .refl rs2 rfl⟩
  · cases h
theorem s_cmp2 {o o' : Cop} {a b c : Ex} (ha : SE T cf k N a) (hb : SE T cf k N b) (hc : SE T cf k N c) : SE T cf k N (.cmp2 o o' a b c) := by
  intro X sc W e g h
  simp only [ck] at h
  split at h
  · rename_i x op op' y z p
    obtain ⟨h, h5⟩ := and2 h
    obtain ⟨h, h4⟩ := and2 h
    obtain ⟨h, h3⟩ := and2 h
    obtain ⟨h1, h2⟩ := and2 h
    cases of_decide_eq_true h1
    cases of_decide_eq_true h2
    have sa := ha X sc W x g h3
    have sb := hb X sc W y g h4
    have sd := hc X sc W z g h5
    have hm : lastMarks [o.op, o'.op] [y, z] = false := ok_mark sd.ok _
    refine snd_mkB rfl (pe_wk (pe_chain (op_cmp o g.hu) (op_cmp o' g.hu) sa.r sb.r sd.r hm) fun σ H Q ⟨ρ, l, s, rs, rl, hp⟩ => ?_) (pt_wk (pt_chain (op_cmp o g.hu) (op_cmp o' g.hu) sa.r sb.r sd.r hm) fun σ H Q ⟨ρ, l, s, rs, rl, hp⟩ => ?_) fun op xs p q => by cases q
    · refine ⟨ρ, l, s, rs, rl, Post.bind bkRR hp fun x s1 ρ1 H1 v1 e1 rs1 r1 h1 => ⟨ρ1, l, s1, rs1, rl.mono e1, Post.bind bkRR h1 fun y s2 ρ2 H2 v2 e2 rs2 r2 h2 => ?_⟩⟩
      cases e4 : cmpR o s2 x y with
      | none => rw [e4] at h2; exact h2.elim
      | some t =>
        rw [e4] at h2
        refine ⟨H, H1, ρ2, s2, x, y, t, rs2, RR.mono e2 r1, r2, e4, t, rfl, ?_⟩
        cases t with
        | false =>
          rw [if_neg Bool.false_ne_true]
          exact post_val rs2 h2 (rv_bl.mpr rfl)
        | true =>
          rw [if_pos rfl]
          refine ⟨ρ2, l, s2, rs2, (rl.mono e1).mono e2, Post.bind bkRR h2 fun z s3 ρ3 H3 v3 e3 rs3 r3 h3 => ?_⟩
          obtain ⟨d, e5, h6⟩ := post_o h3
          obtain ⟨t2, e6, e7⟩ := Option.map_eq_some_iff.mp e5
          cases e7
          exact ⟨H1, H2, ρ3, s3, y, z, t2, rs3, RR.mono e3 r2, r3, e6, post_val rs3 h6 (rv_bl.mpr rfl)⟩
    · refine ⟨ρ, l, s, rs, rl, Post.bind bkB hp fun x s1 ρ1 H1 v1 e1 rs1 r1 h1 => ⟨ρ1, l, s1, rs1, rl.mono e1, Post.bind bkB h1 fun y s2 ρ2 H2 v2 e2 rs2 r2 h2 => ?_⟩⟩
      cases e4 : cmpR o s2 x y with
      | none => rw [e4] at h2; exact h2.elim
      | some t =>
        rw [e4] at h2
        refine ⟨H, H1, ρ2, s2, x, y, t, rs2, RR.mono e2 r1, r2, e4, t, rfl, ?_⟩
        cases t with
        | false =>
          rw [if_neg Bool.false_ne_true]
          exact ⟨false, rfl, h2 ρ2 H2 false .refl rs2 rfl⟩
        | true =>
          rw [if_pos rfl]
          refine ⟨ρ2, l, s2, rs2, (rl.mono e1).mono e2, Post.bind bkB h2 fun z s3 ρ3 H3 v3 e3 rs3 r3 h3 => ?_⟩
          cases e6 : cmpR o' s3 y z with
          | none => rw [e6] at h3; exact h3.elim
          | some t2 =>
            rw [e6] at h3
            exact ⟨H1, H2, ρ3, s3, y, z, t2, rs3, RR.mono e3 r2, r3, e6, t2, rfl, h3 ρ3 H3 t2 .refl rs3 rfl⟩
  · cases h
theorem kin_ok {K : Kw} {ρ : List Addr} {H H0 : Hp} {x : RD} {v : V} {kvs : List (Str × Int)} {t : Bool} (r : RR K H0 ρ H x v) (h : kinR kvs x = some t) : ∃ z, v = .str z ∧ t = (kvs.lookup z).isSome := by
  unfold kinR at h
  split at h
  · cases h; exact ⟨_, rr_str r, rfl⟩
  · cases h
theorem s_kin {j : Nat} {kvs : List (Str × Int)} {a : Ex} (ha : SE T cf k N a) : SE T cf k N (.kin j kvs a) := by
  intro X sc W e g h
  simp only [ck] at h
  split at h
  · rename_i x y p1 p
    obtain ⟨h, h3⟩ := and2 h
    obtain ⟨h1, h2⟩ := and2 h
    have sa := ha X sc W x g h3
    obtain ⟨g1, g2, _⟩ := g.gl h2
    obtain ⟨d, es, n, k1, k2, k3, _⟩ := (g.kds j y kvs (of_decide_eq_true h1)).is
    have pg : PE X (.Name y p1) (tC (.ref d)) := pe_glob g1 k1 rfl g2
    refine snd_mkB rfl (pe_wk (pe_cmpR (op_in_kd k2) sa.r pg (ok_mark (e := .Name y p1) rfl _)) fun σ H Q ⟨ρ, l, s, rs, rl, hp⟩ => ?_) (pt_wk (pt_cmpR (op_in_kd k2) sa.r pg (ok_mark (e := .Name y p1) rfl _)) fun σ H Q ⟨ρ, l, s, rs, rl, hp⟩ => ?_) fun op xs p q => by cases q
    · refine ⟨ρ, l, s, rs, rl, Post.bind bkRR hp fun x s1 ρ1 H1 v1 e1 rs1 r1 h1 => ?_⟩
      obtain ⟨d2, e5, h6⟩ := post_o h1
      obtain ⟨t2, e6, e7⟩ := Option.map_eq_some_iff.mp e5
      cases e7
      obtain ⟨z, ez, rfl⟩ := kin_ok r1 e6
      obtain ⟨r, q1, q2⟩ := k3 z
      rw [← q2] at h6
      exact ⟨z, r, ez, rfl, q1, post_val rs1 h6 (rv_bl.mpr rfl)⟩
    · refine ⟨ρ, l, s, rs, rl, Post.bind bkB hp fun x s1 ρ1 H1 v1 e1 rs1 r1 h1 => ?_⟩
      cases e6 : kinR kvs x with
      | none => rw [e6] at h1; exact h1.elim
      | some t2 =>
        rw [e6] at h1
        obtain ⟨z, ez, rfl⟩ := kin_ok r1 e6
        obtain ⟨r, q1, q2⟩ := k3 z
        rw [← q2] at h1
        exact ⟨z, r, ez, rfl, q1, r.isSome, rfl, h1 ρ1 H1 _ .refl rs1 rfl⟩
  · cases h
theorem s_kix {j : Nat} {kvs : List (Str × Int)} {a : Ex} (ha : SE T cf k N a) : SE T cf k N (.kix j kvs a) := by
  intro X sc W e g h
  simp only [ck] at h
  split at h
  · rename_i y p1 x p
    obtain ⟨h, h3⟩ := and2 h
    obtain ⟨h1, h2⟩ := and2 h
    have sa := ha X sc W x g h3
    obtain ⟨g1, g2, _⟩ := g.gl h2
    obtain ⟨d, es, n, k1, k2, _, k4⟩ := (g.kds j y kvs (of_decide_eq_true h1)).is
    have pg : PE X (.Name y p1) (tC (.ref d)) := pe_glob g1 k1 rfl g2
    refine snd_mkR rfl rfl (pe_wk (pe_ix ix_kdict pg sa.r (ok_ix sa.ok)) fun σ H Q ⟨ρ, l, s, rs, rl, hp⟩ => ?_)
    refine ⟨ρ, l, s, rs, rl, Post.bind bkRR hp fun x s1 ρ1 H1 v1 e1 rs1 r1 h1 => ?_⟩
    obtain ⟨d2, e5, h6⟩ := post_o h1
    unfold kixR at e5
    split at e5
    · rename_i z
      obtain ⟨i, q1, q2⟩ := Option.map_eq_some_iff.mp e5
      cases q2
      exact ⟨d, z, .int i, rfl, rr_str r1, k4 z i q1, post_val rs1 h6 (rv_int.mpr rfl)⟩
    · cases e5
  · cases h
theorem s_and {a b : Ex} (ha : SE T cf k N a) (hb : SE T cf k N b) : SE T cf k N (.and a b) := by
  have go : ∀ (X : Cx) (W : WX) (x y : Expr) (r : List Expr) (p : Pos), SndE X (wS X.mg W) x a.tupIt (den cf T.gc a) → PE X (.BoolOp .And (y :: r) p) (tR X.kw (wS X.mg W) (den cf T.gc b).r) → PW X (.BoolOp .And (y :: r) p) (tBb X.kw (wS X.mg W) (den cf T.gc b).b) → SndE X (wS X.mg W) (.BoolOp .And (x :: y :: r) p) false (den cf T.gc (.and a b)) := by
    intro X W x y r p sa sr sw
    have wb : PW X (.BoolOp .And (x :: y :: r) p) (tBb X.kw (wS X.mg W) (den cf T.gc (.and a b)).b) := pw_wk (pw_and sa.b sw) fun σ H Q ⟨ρ, l, s, rs, rl, hp⟩ => by
      refine ⟨ρ, l, s, rs, rl, Post.bind bkB hp fun t s1 ρ1 H1 v1 e1 rs1 r1 h1 => ?_⟩
      cases r1
      cases t with
      | true => exact iteT ⟨ρ1, l, s1, rs1, rl.mono e1, h1⟩
      | false => exact iteF (h1 ρ1 H1 false .refl rs1 rfl)
    refine snd_mkB rfl (pe_wk (pe_and sa.r sr) fun σ H Q ⟨ρ, l, s, rs, rl, hp⟩ => ?_) wb.pt fun op xs p q => by cases q; exact wb
    refine ⟨ρ, l, s, rs, rl, Post.bind bkRR hp fun t s1 ρ1 H1 v1 e1 rs1 r1 h1 => ?_⟩
    split at h1
    · exact ⟨true, rr_bl r1, iteT ⟨ρ1, l, s1, rs1, rl.mono e1, h1⟩⟩
    · exact ⟨false, rr_bl r1, iteF (post_val rs1 h1 (rv_bl.mpr rfl))⟩
    · exact h1.elim
  intro X sc W e g h
  simp only [ck] at h
  split at h
  · rename_i x y p
    obtain ⟨h1, h2⟩ := and2 h
    have sb := hb X sc W y g h2
    exact go X W x y [] p (ha X sc W x g h1) (pe_one sb.r) (pw_and1 sb.b)
  · rename_i x y z r p
    obtain ⟨h1, h2⟩ := and2 h
    have sb := hb X sc W _ g h2
    exact go X W x y (z :: r) p (ha X sc W x g h1) sb.r (sb.w _ _ _ rfl)
  · cases h
theorem s_or {a b : Ex} (ha : SE T cf k N a) (hb : SE T cf k N b) : SE T cf k N (.or a b) := by
  have go : ∀ (X : Cx) (W : WX) (x y : Expr) (r : List Expr) (p : Pos), SndE X (wS X.mg W) x a.tupIt (den cf T.gc a) → PE X (.BoolOp .Or (y :: r) p) (tR X.kw (wS X.mg W) (den cf T.gc b).r) → PW X (.BoolOp .Or (y :: r) p) (tBb X.kw (wS X.mg W) (den cf T.gc b).b) → SndE X (wS X.mg W) (.BoolOp .Or (x :: y :: r) p) false (den cf T.gc (.or a b)) := by
    intro X W x y r p sa sr sw
    have wb : PW X (.BoolOp .Or (x :: y :: r) p) (tBb X.kw (wS X.mg W) (den cf T.gc (.or a b)).b) := pw_wk (pw_or sa.b sw) fun σ H Q ⟨ρ, l, s, rs, rl, hp⟩ => by
      refine ⟨ρ, l, s, rs, rl, Post.bind bkB hp fun t s1 ρ1 H1 v1 e1 rs1 r1 h1 => ?_⟩
      cases r1
      cases t with
      | true => exact iteT (h1 ρ1 H1 true .refl rs1 rfl)
      | false => exact iteF ⟨ρ1, l, s1, rs1, rl.mono e1, h1⟩
    refine snd_mkB rfl (pe_wk (pe_or sa.r sr) fun σ H Q ⟨ρ, l, s, rs, rl, hp⟩ => ?_) wb.pt fun op xs p q => by cases q; exact wb
    refine ⟨ρ, l, s, rs, rl, Post.bind bkRR hp fun t s1 ρ1 H1 v1 e1 rs1 r1 h1 => ?_⟩
    split at h1
    · exact ⟨false, rr_bl r1, iteF ⟨ρ1, l, s1, rs1, rl.mono e1, h1⟩⟩
    · exact ⟨true, rr_bl r1, iteT (post_val rs1 h1 (rv_bl.mpr rfl))⟩
    · exact h1.elim
  intro X sc W e g h
  simp only [ck] at h
  split at h
  · rename_i x y p
    obtain ⟨h1, h2⟩ := and2 h
    have sb := hb X sc W y g h2
    exact go X W x y [] p (ha X sc W x g h1) (pe_one sb.r) (pw_or1 sb.b)
  · rename_i x y z r p
    obtain ⟨h1, h2⟩ := and2 h
    have sb := hb X sc W _ g h2
    exact go X W x y (z :: r) p (ha X sc W x g h1) sb.r (sb.w _ _ _ rfl)
  · cases h
theorem s_ife {c a b : Ex} (hc : SE T cf k N c) (ha : SE T cf k N a) (hb : SE T cf k N b) : SE T cf k N (.ife c a b) := by
  intro X sc W e g h
  simp only [ck] at h
  split at h
  · rename_i z x y p
    obtain ⟨h, h3⟩ := and2 h
    obtain ⟨h1, h2⟩ := and2 h
    refine snd_mkQ rfl (fun _ _ _ q => by cases q) (pe_wk (pe_ifExp (hc X sc W z g h1).b (ha X sc W x g h2).r (hb X sc W y g h3).r) fun σ H Q ⟨ρ, l, s, rs, rl, hp⟩ => ?_)
    refine ⟨ρ, l, s, rs, rl, Post.bind bkRR hp fun t s1 ρ1 H1 v1 e1 rs1 r1 h1 => ?_⟩
    cases r1
    cases t with
    | true => exact iteT ⟨ρ1, l, s1, rs1, rl.mono e1, h1⟩
    | false => exact iteF ⟨ρ1, l, s1, rs1, rl.mono e1, h1⟩
  · cases h
/-! calls -/
theorem ckl_nil {t : Ex} {sc : Scope} (h : (ck T N t).l sc [] = true) : t = .nil := by
  cases t <;> first | rfl | (simp only [ck, noL] at h; exact Bool.noConfusion h)
theorem pl_tail {X : Cx} {e : Expr} {r : List Expr} {m : M (List D)} {W : L2.St → Wx} (sa : SndA X W (e :: r) m) (pos : Pos) : (backTo pos (starEach r X.env)).any (·.1) = false := by
  have h := sa.pl pos
  rw [ok_star (sa.hd e r rfl) r X.env] at h
  have h : (false || (backTo pos (starEach r X.env)).any (·.1)) = false := h
  rwa [Bool.false_or] at h
theorem pe_callS0 {X : Cx} {CX : CXT} {k : Nat} {f : Addr} {fd : FuncData} {ps : List Str} {sp : Sp} {E : L2.St → XK} {x : Str} {p pos : Pos} (F : FnOk X.prog X.w X.K X.mg X.base CX k f fd ps sp) (hr : Room k X.A) (hg : Gl X x) (hm : X.mg x = some (.ref f)) (hk : PySem.W.keepIn X.K (.ref f) = true) (hb : Binds X.K fd ps []) (hx : ∀ σ, PassesAt CX X σ (E σ))
    (hdb : (x == ("__debug__" : Str)) = false) : PE X (.Call (.Name x p) [] [] pos) (tCallS sp E tNil) := by
  refine ⟨fun pins s σ H Q I h => ?_⟩
  refine wpAny_Call_Name_kw (ld_glob I hg hm ?_ hdb)
  exact PySem.W.callWith_K0 I.kIn hk (run_fnS (us := []) F hr hb (hx σ) I .nil h)
theorem s_call {f : Nat} {es : Ex} (he : SA T cf k N es) : SE T cf k N (.call f es) := by
  intro X sc W e g h
  simp only [ck] at h
  split at h
  · rename_i x px xs p
    obtain ⟨h, h3⟩ := and2 h
    obtain ⟨h1, h2⟩ := and2 h
    obtain ⟨g1, g2, _⟩ := g.gl h2
    obtain ⟨F, h4, h5⟩ := Option.map_eq_some_iff.mp (of_decide_eq_true h1)
    obtain ⟨fa, fd, k1, k2, k3, k4⟩ := g.fns f F h4
    rw [h5] at k1
    have sa := he X sc W xs g h3
    have fin : ∀ (σ : L2.St) (Q : VK) (ρ : List Addr) (H : Hp) (s : Sto) (ds : List D) (vs : List V), RS X.kw ρ H s → RVs X.kw ρ H ds vs → Post X.kw (wS X.mg W σ) (rRR X.kw) ρ H Q (cf f ds s) → spOf X.kw X.mg (cf f) vs H Q (WE W σ) := fun σ Q ρ H s ds vs rs rv h => ⟨ρ, s, ds, rs, rv, h⟩
    have pe : PE X (.Call (.Name x px) xs [] p) (tR X.kw (wS X.mg W) (den cf T.gc (.call f es)).r) := by
      cases xs with
      | nil =>
        have q := ckl_nil h3
        subst q
        refine pe_wk (pe_callS0 k4 g.room g1 k1 k2 k3 (passAt g.tk) g2) fun σ H Q ⟨ρ, l, s, rs, rl, hp⟩ => ?_
        exact fin σ Q ρ H s [] [] rs .nil_ hp
      | cons e r =>
        refine pe_wk (pe_callS k4 g.room g1 k1 k2 k3 (passAt g.tk) sa.a g2 (ok_star (sa.hd e r rfl) r X.env) (pl_tail sa p)) fun σ H Q ⟨ρ, l, s, rs, rl, hp⟩ => ?_
        refine ⟨ρ, l, s, rs, rl, Post.bind bkRR hp fun ds s1 ρ1 H1 vs e1 rs1 r1 h1 => fin σ Q ρ1 H1 s1 ds vs rs1 r1 h1⟩
    exact snd_mkR rfl rfl pe
  · cases h
/-! a fresh list that will never change -/
def tFrz (t : TE) : TE := fun σ H Q => t σ H fun v H1 => Q v H1 ∨ ∃ a u, v = .ref a ∧ H1 a = some u ∧ L2.Mut (some u) ∧ ∀ od, Q v (upd H1 a (.frz od u))
theorem pe_frz {X : Cx} {e : Expr} {t : TE} (h : PE X e t) : PE X e (tFrz t) := by
  refine ⟨fun pins s σ H Q I q => ?_⟩
  refine thn (h.run pins s σ H _ I q) fun v s1 ⟨x, H1, I1, r, q1⟩ => ?_
  rcases q1 with q1 | ⟨a, vs, rfl, h1, hm, q1⟩
  · exact ⟨x, H1, I1, r, q1⟩
  · obtain ⟨od, I2⟩ := I1.lock h1 hm
    exact ⟨_, _, I2, r, q1 od⟩
/-- what is locked -/
theorem frz_rr {K : Kw} {ρ ρ1 : List Addr} {H H1 : Hp} {s1 : Sto} {x : RD} {v : V} (e1 : Ext K ρ H ρ1 H1) (rs1 : RS K ρ1 H1 s1) (r1 : RR K H ρ1 H1 x v) : RR K H ρ1 H1 (frzR x) v ∨
    ∃ a u, v = .ref a ∧ H1 a = some u ∧ L2.Mut (some u) ∧ ∀ od, Ext K ρ H ρ1 (upd H1 a (.frz od u)) ∧ RS K ρ1 (upd H1 a (.frz od u)) s1 ∧ RR K H ρ1 (upd H1 a (.frz od u)) (frzR x) v := by
  cases x with
  | d x => exact .inl r1
  | l xs =>
    obtain ⟨p, vs, rfl, h3, h4, h5, h6⟩ := r1
    refine .inr ⟨p, _, rfl, h3, trivial, fun od => ⟨e1.pokeA h6 (.lst h3), rs1.pokeA (.lst h3) h5, ?_⟩⟩
    show RV _ _ _ (.lf xs) _
    unfold RV
    exact ⟨p, vs, rfl, .inl ⟨od, upd_same⟩, h4.pokeA (.lst h3)⟩
  | m kvs =>
    unfold frzR
    by_cases hk : dK kvs = true
    case neg => simp only [hk]; exact .inl r1
    simp only [hk, if_true]
    obtain ⟨p, rfl, h2, h5, h6⟩ := r1
    obtain ⟨vs, h3, h4, h7⟩ := h2.dk hk
    refine .inr ⟨p, _, rfl, h3, trivial, fun od => ⟨e1.pokeA h6 (.dK h3), rs1.pokeA (.dK h3) h5, ?_⟩⟩
    show RV _ _ _ (.ld (kvs.map (·.1)) (kvs.map (·.2))) _
    unfold RV
    exact ⟨p, od, vs, rfl, upd_same, h4, h7.pokeA (.dK h3)⟩
theorem s_frz {a : Ex} (ha : SE T cf k N a) : SE T cf k N (.frz a) := by
  intro X sc W e g h
  simp only [ck] at h
  obtain ⟨h, h2⟩ := and2 h
  obtain ⟨h1, _⟩ := and2 h
  have sa := ha X sc W e g h2
  refine snd_mkR sa.ok h1 (pe_wk (pe_frz sa.r) fun σ H Q ⟨ρ, l, s, rs, rl, hp⟩ => ⟨ρ, l, s, rs, rl, ?_⟩)
  have hp : Post X.kw _ (rRR X.kw) ρ H Q (((den cf T.gc a).r l s).bind fun x s1 => .ok (frzR x) s1) := hp
  cases hm : (den cf T.gc a).r l s with
  | no => rw [hm] at hp; exact hp
  | ex x s1 => rw [hm] at hp; exact hp
  | ok x s1 =>
    rw [hm] at hp
    have hp : ∀ ρ' H' v, Ext X.kw ρ H ρ' H' → RS X.kw ρ' H' s1 → RR X.kw H ρ' H' (frzR x) v → Q v H' := hp
    intro ρ1 H1 v e1 rs1 r1
    rcases frz_rr e1 rs1 r1 with q | ⟨a, u, rfl, h1, h2, q⟩
    · exact .inl (hp ρ1 H1 v e1 rs1 q)
    · refine .inr ⟨a, u, rfl, h1, h2, fun od => ?_⟩
      obtain ⟨q1, q2, q3⟩ := q od
      exact hp ρ1 _ _ q1 q2 q3
theorem s_b1 {f : B1} {a : Ex} (ha : SE T cf k N a) : SE T cf k N (.b1 f a) := by
  intro X sc W e g h
  simp only [ck] at h
  split at h
  · rename_i x px y p
    obtain ⟨h, h4⟩ := and2 h
    obtain ⟨h, h3⟩ := and2 h
    obtain ⟨h1, h2⟩ := and2 h
    obtain ⟨g1, g2, g3⟩ := g.gl h2
    have sa := ha X sc W y g h4
    have hb := b1_boot f
    rw [← of_decide_eq_true h1] at hb
    refine snd_mkR rfl rfl (pe_wk (pe_callV (b1_kind f) (call_b1 (W := W0) f g.hu g.calm) g1 (g.blt x h3) hb (pa_r sa.ok sa.r) g3 g2 (ok_star sa.ok [] X.env) rfl) fun σ H Q ⟨ρ, l, s, rs, rl, hp⟩ => ?_)
    exact ⟨ρ, l, s, rs, rl, Post.bind bkRR hp fun x s1 ρ1 H1 v1 e1 rs1 r1 h1 => ⟨v1, H, ρ1, s1, x, rfl, rs1, r1, post_w h1⟩⟩
  · cases h
theorem s_b2 {f : B2} {a b : Ex} (ha : SE T cf k N a) (hb : SE T cf k N b) : SE T cf k N (.b2 f a b) := by
  intro X sc W e g h
  simp only [ck] at h
  split at h
  · rename_i x px y z p
    obtain ⟨h, h5⟩ := and2 h
    obtain ⟨h, h4⟩ := and2 h
    obtain ⟨h, h3⟩ := and2 h
    obtain ⟨h1, h2⟩ := and2 h
    obtain ⟨g1, g2, g3⟩ := g.gl h2
    have sa := ha X sc W y g h4
    have sb := hb X sc W z g h5
    have hb := b2_boot f
    rw [← of_decide_eq_true h1] at hb
    refine snd_mkR rfl rfl (pe_wk (pe_callV (b2_kind f) (call_b2 (W := W0) f g.calm) g1 (g.blt x h3) hb (pa_cons sa.r (pa_r sb.ok sb.r) (ok_star sa.ok _ X.env)) g3 g2 (ok_star sa.ok _ X.env) (by rw [ok_star sb.ok]; rfl)) fun σ H Q ⟨ρ, l, s, rs, rl, hp⟩ => ?_)
    exact ⟨ρ, l, s, rs, rl, Post.bind bkRR hp fun x s1 ρ1 H1 v1 e1 rs1 r1 h1 => ⟨ρ1, l, s1, rs1, rl.mono e1, Post.bind bkRR h1 fun y s2 ρ2 H2 v2 e2 rs2 r2 h2 => ⟨v1, v2, H, H1, ρ2, s2, x, y, rfl, rs2, RR.mono e2 r1, r2, post_w h2⟩⟩⟩
  · cases h
theorem s_isin {a : Ex} {t : Ty} (ha : SE T cf k N a) : SE T cf k N (.isin a t) := by
  intro X sc W e g h
  simp only [ck] at h
  split at h
  · rename_i x px y z pz p
    obtain ⟨h, h7⟩ := and2 h
    obtain ⟨h, h6⟩ := and2 h
    obtain ⟨h, h5⟩ := and2 h
    obtain ⟨h, h4⟩ := and2 h
    obtain ⟨h, h3⟩ := and2 h
    obtain ⟨h1, h2⟩ := and2 h
    obtain ⟨g1, g2, g3⟩ := g.gl h2
    obtain ⟨z1, z2, z3⟩ := g.gl h6
    have sa := ha X sc W y g h4
    have hz := ty_boot t
    rw [← of_decide_eq_true h5] at hz
    have pz' : PE X (.Name z pz) (tC (.ty t.name)) := pe_bltn (v := .ty t.name) z1 (g.blt z h7) hz rfl z3 z2
    have hx : bootBuiltins x = some (.builtin "isinstance") := by rw [of_decide_eq_true h1]; decide +kernel
    refine snd_mkR rfl rfl (pe_wk (pe_callB (call_isin (W := W0) t) g1 (g.blt x h3) hx (pa_cons sa.r (pa_cons pz' pa_nil) (ok_star sa.ok _ X.env)) g3 g2 (ok_star sa.ok _ X.env) rfl) fun σ H Q ⟨ρ, l, s, rs, rl, hp⟩ => ?_)
    exact ⟨ρ, l, s, rs, rl, Post.bind bkRR hp fun x s1 ρ1 H1 v1 e1 rs1 r1 h1 => ⟨v1, H, ρ1, s1, x, rfl, rs1, r1, post_w h1⟩⟩
  · cases h
/-! methods -/
theorem base_ok {y : Expr} (h : notCall0 y = true) (name : Str) (env : Env) : attributeBase y name env (eval y env) = eval y env := by
  cases y with
  | Call f as ks p =>
    cases as with
    | nil => cases h
    | cons a r => cases f <;> rfl
  | _ => rfl
theorem ty_lst {K : Kw} {ρ : List Addr} {H : Hp} {s : Sto} {i : Nat} {xs : List D} {v : V} (rs : RS K ρ H s) (r : RV K ρ H (.obj i) v) (h : s[i]? = some (.lst xs)) : tyV K "list" v H := by
  obtain ⟨p, vs, rfl, h1, h2, h3⟩ := obj_lst rs r h
  exact .inl ⟨rfl, vs, SqL.of h2⟩
theorem post_m0 {K : Kw} {W W' : Wx} {ρ : List Addr} {H : Hp} {Q : VK} {m : M0} {d : D} {s : Sto} (h : Post K W (rRR K) ρ H Q (m0R m d s)) : Post K W' (rRR K) ρ H Q (m0R m d s) := by
  cases e : m0R m d s with
  | ok a s1 => rw [e] at h; exact h
  | no => rw [e] at h; exact h
  | ex x s1 =>
    unfold m0R at e
    split at e
    · split at e
      · cases e
      · cases e
      · split at e <;> cases e
      · cases e
    · cases e
theorem post_m1 {K : Kw} {W W' : Wx} {ρ : List Addr} {H : Hp} {Q : VK} {m : M1} {d : D} {a : RD} {s : Sto} (h : Post K W (rRR K) ρ H Q (m1R m d a s)) : Post K W' (rRR K) ρ H Q (m1R m d a s) := by
  cases e : m1R m d a s with
  | ok a s1 => rw [e] at h; exact h
  | no => rw [e] at h; exact h
  | ex x s1 =>
    unfold m1R at e
    split at e
    · split at e
      · split at e <;> cases e
      · split at e
        · split at e <;> cases e
        · cases e
      · cases e
    · cases e
theorem m0_ty {K : Kw} {ρ : List Addr} {H : Hp} {s : Sto} {m : M0} {d : D} {v : V} {Q : VK} (rs : RS K ρ H s) (r : RV K ρ H d v) (h : Post K W0 (rRR K) ρ H Q (m0R m d s)) : tyV K "list" v H := by
  unfold m0R at h
  split at h
  · split at h
    · rename_i e; exact ty_lst rs r e
    · rename_i e; exact ty_lst rs r e
    · rename_i e; exact ty_lst rs r e
    · exact h.elim
  · exact h.elim
theorem s_m0 {m : M0} {o : Ex} (ho : SE T cf k N o) : SE T cf k N (.m0 m o) := by
  intro X sc W e g h
  simp only [ck] at h
  split at h
  · rename_i y x ap cp
    obtain ⟨h, h4⟩ := and2 h
    obtain ⟨h, h3⟩ := and2 h
    obtain ⟨h1, h2⟩ := and2 h
    cases of_decide_eq_true h1
    have so := ho X sc W y g h4
    have pe : PE X (.Call (.Attribute y (m.name : Str) ap) [] [] cp) (tBM0 X.K "list" (rM X.kw W0 (m0R m)) (tVv X.kw (wS X.mg W) (den cf T.gc o).v)) := by
      cases m with
      | reverse => exact pe_bm0 PySem.F.plainAttrs_list PySem.F.slot_list_reverse PySem.F.type_list_reverse (mt_m0 (W := W0) .reverse) so.v (base_ok h3 _ _) h2
      | clear => exact pe_bm0 PySem.F.plainAttrs_list PySem.F.slot_list_clear PySem.F.type_list_clear (mt_m0 (W := W0) .clear) so.v (base_ok h3 _ _) h2
      | pop => exact pe_bm0 PySem.F.plainAttrs_list PySem.F.slot_list_pop PySem.F.type_list_pop (mt_m0 (W := W0) .pop) so.v (base_ok h3 _ _) h2
    refine snd_mkR rfl rfl (pe_wk pe fun σ H Q ⟨ρ, l, s, rs, rl, hp⟩ => ?_)
    refine ⟨ρ, l, s, rs, rl, Post.bind bkRR hp fun d s1 ρ1 H1 v1 e1 rs1 r1 h1 => ⟨m0_ty rs1 r1 (post_m0 h1), ρ1, s1, d, rfl, rs1, r1, post_m0 h1⟩⟩
  · cases h
theorem isLst_ty {K : Kw} {ρ : List Addr} {H : Hp} {s : Sto} {d : D} {v : V} (rs : RS K ρ H s) (r : RV K ρ H d v) (h : isLstB s d = true) : tyV K "list" v H := by
  unfold isLstB at h
  split at h
  · rename_i i
    cases e : lstAt s i with
    | none => rw [e] at h; cases h
    | some xs =>
      unfold lstAt at e
      split at e
      · rename_i ys ey; exact ty_lst rs r ey
      · cases e
  · cases h
theorem rv_rr {K : Kw} {H0 : Hp} {ρ : List Addr} {H : Hp} {d : D} {v : V} (r : RV K ρ H d v) : RR K H0 ρ H (.d d) v := r
theorem s_m1 {m : M1} {o a : Ex} (ho : SE T cf k N o) (ha : SE T cf k N a) : SE T cf k N (.m1 m o a) := by
  intro X sc W e g h
  simp only [ck] at h
  split at h
  · rename_i y x ap z cp
    obtain ⟨h, h5⟩ := and2 h
    obtain ⟨h, h4⟩ := and2 h
    obtain ⟨h, h3⟩ := and2 h
    obtain ⟨h1, h2⟩ := and2 h
    cases of_decide_eq_true h1
    have so := ho X sc W y g h4
    have sa := ha X sc W z g h5
    have few : ((backTo cp (starEach [z] X.env)).all (fun x => !x.1) && (backToKw cp (keywordEach [] X.env)).all (fun x => x.1.isSome)
      && decide (([z] : List Expr).length + ([] : List Keyword).length + (if ([] : List Keyword).isEmpty then 0 else 1) < 30)) = true := by
      rw [ok_star sa.ok]
      rfl
    cases m with
    | append =>
      refine snd_mkR rfl rfl (pe_wk (pe_bm PySem.F.plainAttrs_list PySem.F.slot_list_append PySem.F.type_list_append (mt_m1 (W := W0) .append) so.v (pa_cons sa.v pa_nil (ok_star sa.ok [] X.env)) (base_ok h3 _ _) few h2 (ok_star sa.ok [] X.env) rfl) fun σ H Q ⟨ρ, l, s, rs, rl, hp⟩ => ?_)
      refine ⟨ρ, l, s, rs, rl, Post.bind bkRR hp fun d s1 ρ1 H1 v1 e1 rs1 r1 h1 => ?_⟩
      obtain ⟨c, h2⟩ := post_ite h1
      exact ⟨isLst_ty rs1 r1 c, ρ1, l, s1, rs1, rl.mono e1, Post.bind bkRR h2 fun y s2 ρ2 H2 v2 e2 rs2 r2 h3 => ⟨v2, H2, ρ2, s2, d, .d y, rfl, rs2, RV.mono e2 _ _ r1, r2, post_m1 h3⟩⟩
    | extend =>
      refine snd_mkR rfl rfl (pe_wk (pe_bm PySem.F.plainAttrs_list PySem.F.slot_list_extend PySem.F.type_list_extend (mt_m1 (W := W0) .extend) so.v (pa_cons sa.r pa_nil (ok_star sa.ok [] X.env)) (base_ok h3 _ _) few h2 (ok_star sa.ok [] X.env) rfl) fun σ H Q ⟨ρ, l, s, rs, rl, hp⟩ => ?_)
      refine ⟨ρ, l, s, rs, rl, Post.bind bkRR hp fun d s1 ρ1 H1 v1 e1 rs1 r1 h1 => ?_⟩
      obtain ⟨c, h2⟩ := post_ite h1
      exact ⟨isLst_ty rs1 r1 c, ρ1, l, s1, rs1, rl.mono e1, Post.bind bkRR h2 fun y s2 ρ2 H2 v2 e2 rs2 r2 h3 => ⟨v2, H1, ρ2, s2, d, y, rfl, rs2, RV.mono e2 _ _ r1, r2, post_m1 h3⟩⟩
  · cases h
theorem s_rng3 {a b c : Ex} (ha : SE T cf k N a) (hb : SE T cf k N b) (hc : SE T cf k N c) : SE T cf k N (.rng3 a b c) := by
  intro X sc W e g h
  simp only [ck] at h
  split at h
  · rename_i x px y z v p
    obtain ⟨h, h6⟩ := and2 h
    obtain ⟨h, h5⟩ := and2 h
    obtain ⟨h, h4⟩ := and2 h
    obtain ⟨h, h3⟩ := and2 h
    obtain ⟨h1, h2⟩ := and2 h
    cases of_decide_eq_true h1
    obtain ⟨g1, g2, g3⟩ := g.gl h2
    have sa := ha X sc W y g h4
    have sb := hb X sc W z g h5
    have sc2 := hc X sc W v g h6
    have st1 := ok_star sa.ok [z, v] X.env
    have st2 := ok_star sb.ok [v] X.env
    have st3 := ok_star sc2.ok [] X.env
    have pa := pa_cons sa.r (pa_cons sb.r (pa_r sc2.ok sc2.r) st2) st1
    refine snd_mkI rfl (fun _ _ _ q => by cases q) fun tg htg => ?_
    refine pi_wk (pi_range3 g1 (g.blt _ h3) pa st1 (by rw [st2, st3]; rfl)) fun σ H R ⟨ρ, l, s, rs, rl, hp⟩ => ?_
    refine ⟨ρ, l, s, rs, rl, Post.bind bkIt hp fun x s1 ρ1 H1 v1 e1 rs1 r1 h1 => ⟨ρ1, l, s1, rs1, rl.mono e1, Post.bind bkIt h1 fun y s2 ρ2 H2 v2 e2 rs2 r2 h2 => ⟨ρ2, l, s2, rs2, (rl.mono e1).mono e2, Post.bind bkIt h2 fun z s3 ρ3 H3 v3 e3 rs3 r3 h3 => ?_⟩⟩⟩
    cases er : rng3R x y z with
    | none => rw [er] at h3; exact h3.elim
    | some its =>
      rw [er] at h3
      unfold rng3R at er
      split at er
      · rename_i i j q
        split at er
        · rename_i hh
          cases er
          refine ⟨i, j, q, _, by rw [rr_int (RR.mono e3 (RR.mono e2 r1)), rr_int (RR.mono e3 r2), rr_int r3], ⟨hh.1, hh.2.1, hh.2.2, PyProof.Rows.rangeSize_toNat i j q⟩, h3 ρ3 H3 _ .refl rs3 it_steps⟩
        · cases er
      · cases er
  · cases h
/-! dicts; what is never reached -/
theorem s_any : SE T cf k N .any := by
  intro X sc W e g h
  exact ⟨(and2 h).1, pe_no, pt_no, fun _ _ _ _ => ⟨fun _ _ _ _ _ _ _ ⟨_, _, _, _, _, h⟩ => h.elim⟩, fun _ _ => pi_no⟩
theorem s_dnew : SE T cf k N .dnew := by
  intro X sc W e g h
  simp only [ck] at h
  split at h
  · rename_i p
    refine snd_mkR rfl rfl (pe_wk pe_dnewK fun σ H Q ⟨ρ, l, s, rs, rl, hp⟩ q hq => ?_)
    have hp : Post X.kw _ (rRR X.kw) ρ H Q (.ok (.m []) s) := hp
    exact hp ρ _ (.ref q) (Ext.laid hq) (rs.laid hq) ⟨q, rfl, .inl ⟨[], upd_same, rfl, by show RVs _ _ _ [] _; unfold RVs; rfl⟩, rs.fresh hq, hq⟩
  · cases h
theorem dct_some {s : Sto} {a : RD} (h : (dctAt s a).isSome = true) : ∃ kvs, dctAt s a = some kvs := by
  cases e : dctAt s a with
  | none => rw [e] at h; cases h
  | some kvs => exact ⟨kvs, rfl⟩
theorem s_dget {o a b : Ex} (ho : SE T cf k N o) (ha : SE T cf k N a) (hb : SE T cf k N b) : SE T cf k N (.dget o a b) := by
  intro X sc W e g h
  simp only [ck] at h
  split at h
  · rename_i y m ap z w cp
    obtain ⟨h, h6⟩ := and2 h
    obtain ⟨h, h5⟩ := and2 h
    obtain ⟨h, h4⟩ := and2 h
    obtain ⟨h, h3⟩ := and2 h
    obtain ⟨h1, h2⟩ := and2 h
    cases of_decide_eq_true h1
    have so := ho X sc W y g h4
    have sa := ha X sc W z g h5
    have sb := hb X sc W w g h6
    have st : starEach [z, w] X.env = [(false, eval z X.env), (false, eval w X.env)] := by rw [ok_star sa.ok, ok_star sb.ok]; rfl
    have mm : L2.M2 X y "get" ap z w cp := ⟨base_ok h3 _ _, by rw [st]; rfl, h2, by rw [st]; rfl⟩
    refine snd_mkR rfl rfl (pe_wk (pe_dget2A (by have := g.hu; omega) so.r sa.r sb.v mm) fun σ H Q ⟨ρ, l, s, rs, rl, hp⟩ => ?_)
    refine ⟨ρ, l, s, rs, rl, Post.bind bkRR hp fun d s1 ρ1 H1 v1 e1 rs1 r1 h1 => ?_⟩
    obtain ⟨c, h2⟩ := post_ite h1
    have hd : ∃ p, v1 = .ref p ∧ IsDN X H1 p := by
      unfold dgOk at c
      rw [Bool.or_eq_true, Bool.or_eq_true] at c
      rcases c with (c | c) | c
      · obtain ⟨kvs, ek⟩ := dct_some c
        obtain ⟨p, vs, rfl, hp1, _⟩ := dctAt_ok rs1 r1 ek
        exact ⟨p, rfl, isDN_k hp1⟩
      · obtain ⟨kvs, ek⟩ := Option.isSome_iff_exists.mp c
        obtain ⟨i, p, xs, vs, _, _, rfl, _, hd⟩ := rs1.nAt r1 ek
        exact ⟨p, rfl, isDN_n hd⟩
      · obtain ⟨kvs, ek⟩ := Option.isSome_iff_exists.mp c
        obtain ⟨i, p, xs, vs, _, _, rfl, _, hd⟩ := rs1.bAt r1 ek
        exact ⟨p, rfl, isDN_b hd⟩
    obtain ⟨p, rfl, hd⟩ := hd
    refine ⟨p, rfl, hd, ρ1, l, s1, rs1, rl.mono e1, Post.bind bkRR h2 fun kd s2 ρ2 H2 v2 e2 rs2 r2 h3 => ⟨ρ2, l, s2, rs2, (rl.mono e1).mono e2, Post.bind bkRR h3 fun xd s3 ρ3 H3 v3 e3 rs3 r3 h4 => ?_⟩⟩
    have hq := post_o h4
    clear h4
    obtain ⟨rr, er, h4⟩ := hq
    have r1' := RR.mono e3 (RR.mono e2 r1)
    have r2' := RR.mono e3 r2
    unfold getR at er
    split at er
    · rename_i ks z q1
      cases q1
      obtain ⟨kvs, e4, e5⟩ := bindo er
      obtain ⟨kn, e6, rfl⟩ := Option.map_eq_some_iff.mp e5
      obtain ⟨i, p2, xs, vs, rfl, _, ep, _, hd2⟩ := rs3.nAt r1' e4
      cases ep
      obtain ⟨r, gg, n1, n2⟩ := dgn_of hd2 r2' e6
      refine ⟨r, .inr (.inl gg), ?_⟩
      cases ed : nlk kvs kn with
      | none =>
        rw [n2 ed]
        rw [ed] at h4
        exact post_val rs3 h4 r3
      | some d0 =>
        obtain ⟨v0, rfl, e7⟩ := n1 d0 ed
        rw [ed] at h4
        exact post_val rs3 h4 e7
    · rename_i b z q1
      cases q1
      obtain ⟨kvs, e4, rfl⟩ := Option.map_eq_some_iff.mp er
      obtain ⟨i, p2, xs, vs, rfl, _, ep, _, hd2⟩ := rs3.bAt r1' e4
      cases ep
      obtain ⟨r, gg, n1, n2⟩ := dgb_of hd2 (rr_bl r2')
      refine ⟨r, .inr (.inr gg), ?_⟩
      cases ed : blk kvs b with
      | none =>
        rw [n2 ed]
        rw [ed] at h4
        exact post_val rs3 h4 r3
      | some d0 =>
        obtain ⟨v0, rfl, e7⟩ := n1 d0 ed
        rw [ed] at h4
        exact post_val rs3 h4 e7
    · unfold getR0 at er
      split at er
      · rename_i kvs3 kk xz q1 q2 q3
        cases er
        cases q3
        obtain ⟨p3, vs3, ev, hp3, g1, g2⟩ := dctAt_ok rs3 r1' q1
        cases ev
        have ex := keyR_ok r2 q2
        subst ex
        refine ⟨valV vs3 kk, .inl (.inl ⟨_, _, hp3, rfl, rfl⟩), ?_⟩
        obtain ⟨k1, k2⟩ := dlk_ok kk g1 g2
        cases ed : dlk kvs3 kk with
        | none =>
          rw [ed] at k2 h4
          cases ev : valV vs3 kk with
          | none => exact post_val rs3 h4 r3
          | some _ => rw [ev] at k2; cases k2
        | some d0 =>
          obtain ⟨v0, e5, e6⟩ := k1 d0 ed
          rw [ed] at h4
          rw [e5]
          exact post_val rs3 h4 e6
      · cases er
  · cases h
theorem s_dget1 {o a : Ex} (ho : SE T cf k N o) (ha : SE T cf k N a) : SE T cf k N (.dget1 o a) := by
  intro X sc W e g h
  simp only [ck] at h
  split at h
  · rename_i y m ap z cp
    obtain ⟨h, h5⟩ := and2 h
    obtain ⟨h, h4⟩ := and2 h
    obtain ⟨h, h3⟩ := and2 h
    obtain ⟨h1, h2⟩ := and2 h
    cases of_decide_eq_true h1
    have so := ho X sc W y g h4
    have sa := ha X sc W z g h5
    have st : starEach [z] X.env = [(false, eval z X.env)] := by rw [ok_star sa.ok]; rfl
    have mm : L2.M1 X y "get" ap z cp := ⟨base_ok h3 _ _, by rw [st]; rfl, h2, by rw [st]; rfl⟩
    refine snd_mkR rfl rfl (pe_wk (pe_dgetA (by have := g.hu; omega) so.r sa.r mm) fun σ H Q ⟨ρ, l, s, rs, rl, hp⟩ => ?_)
    refine ⟨ρ, l, s, rs, rl, Post.bind bkRR hp fun d s1 ρ1 H1 v1 e1 rs1 r1 h1 => ?_⟩
    obtain ⟨c, h2⟩ := post_ite h1
    have hd : ∃ p, v1 = .ref p ∧ IsDN X H1 p := by
      rcases c with c | c
      · obtain ⟨kvs, ek⟩ := dct_some c
        obtain ⟨p, vs, rfl, hp1, _⟩ := dctAt_ok rs1 r1 ek
        exact ⟨p, rfl, isDN_k hp1⟩
      · obtain ⟨kvs, ek⟩ := Option.isSome_iff_exists.mp c
        obtain ⟨i, p, xs, vs, _, _, rfl, _, hd⟩ := rs1.nAt r1 ek
        exact ⟨p, rfl, isDN_n hd⟩
    obtain ⟨p, rfl, hd⟩ := hd
    refine ⟨p, rfl, hd, ρ1, l, s1, rs1, rl.mono e1, Post.bind bkRR h2 fun kd s2 ρ2 H2 v2 e2 rs2 r2 h3 => ?_⟩
    have hq := post_o h3
    clear h3
    obtain ⟨rr, er, h4⟩ := hq
    unfold getR1 at er
    split at er
    · obtain ⟨kvs, e3, e4⟩ := bindo er
      obtain ⟨kn, e5, rfl⟩ := Option.map_eq_some_iff.mp e4
      obtain ⟨i, p2, xs, vs, rfl, _, ep, _, hd2⟩ := rs2.nAt (RR.mono e2 r1) e3
      cases ep
      obtain ⟨r, gg, n1, n2⟩ := dgn_of hd2 r2 e5
      refine ⟨r, .inr gg, ?_⟩
      cases ed : nlk kvs kn with
      | none =>
        rw [n2 ed]
        rw [ed] at h4
        exact post_val rs2 h4 (rv_non.mpr rfl)
      | some d0 =>
        obtain ⟨v0, rfl, e6⟩ := n1 d0 ed
        rw [ed] at h4
        exact post_val rs2 h4 e6
    · obtain ⟨kvs, e3, e4⟩ := bindo er
      obtain ⟨kk, e5, rfl⟩ := Option.map_eq_some_iff.mp e4
      obtain ⟨p3, vs3, ev, hp3, g1, g2⟩ := dctAt_ok rs2 (RR.mono e2 r1) e3
      cases ev
      have ex := keyR_ok r2 e5
      subst ex
      refine ⟨valV vs3 kk, .inl (.inl ⟨_, _, hp3, rfl, rfl⟩), ?_⟩
      obtain ⟨k1, k2⟩ := dlk_ok kk g1 g2
      cases ed : dlk kvs kk with
      | none =>
        rw [ed] at k2 h4
        cases ev : valV vs3 kk with
        | none => exact post_val rs2 h4 (rv_non.mpr rfl)
        | some _ => rw [ev] at k2; cases k2
      | some d0 =>
        obtain ⟨v0, e6, e7⟩ := k1 d0 ed
        rw [ed] at h4
        rw [e6]
        exact post_val rs2 h4 e7
  · cases h
/-! subscripts -/
theorem s_ix {a b : Ex} (ha : SE T cf k N a) (hb : SE T cf k N b) : SE T cf k N (.ix a b) := by
  intro X sc W e g h
  simp only [ck] at h
  split at h
  · rename_i x y p
    obtain ⟨h1, h2⟩ := and2 h
    have sa := ha X sc W x g h1
    have sb := hb X sc W y g h2
    refine snd_mkR rfl rfl (pe_wk (pe_ix (ix_any (W := W0) (by have := g.hu; omega)) sa.r sb.r (ok_ix sb.ok)) fun σ H Q ⟨ρ, l, s, rs, rl, hp⟩ => ?_)
    exact ⟨ρ, l, s, rs, rl, Post.bind bkRR hp fun x s1 ρ1 H1 v1 e1 rs1 r1 h1 => ⟨ρ1, l, s1, rs1, rl.mono e1, Post.bind bkRR h1 fun y s2 ρ2 H2 v2 e2 rs2 r2 h2 => ⟨H, H1, ρ2, s2, x, y, rs2, RR.mono e2 r1, r2, post_w h2⟩⟩⟩
  · cases h
abbrev rOI : Hp → List Addr → Hp → Option Int → Option Int → Prop := fun _ _ _ a b => a = b
def tOi (K : Kw) (W : L2.St → Wx) (m : M (Option Int)) : TO := fun σ H Q => ∃ ρ l s, RS K ρ H s ∧ RL K ρ H σ l ∧ Post K (W σ) rOI ρ H Q (m l s)
theorem po_wk {X : Cx} {e : Option Expr} {t t' : TO} (h : PO X e t) (w : ∀ σ H Q, t' σ H Q → t σ H Q) : PO X e t' := ⟨fun pins s σ H Q I q => h.run pins s σ H Q I (w σ H Q q)⟩
theorem po_any {X : Cx} {W : WX} {sc : Scope} {t : Ex} (g : Good T cf k N sc X W) (ht : SE T cf k N t) {l : Option Expr} (h : (match l with | none => t.isNil | some y => !t.isNil && (ck T N t).e sc y) = true) : PO X l (tOi X.kw (wS X.mg W) (optI t.isNil (den cf T.gc t).r)) := by
  cases l with
  | none =>
    have h : t.isNil = true := h
    refine po_wk po_none fun σ H Q ⟨ρ, l, s, rs, rl, hp⟩ => ?_
    unfold optI at hp
    rw [if_pos h] at hp
    exact hp ρ H none .refl rs rfl
  | some y =>
    obtain ⟨h1, h2⟩ := and2 (show (!t.isNil && (ck T N t).e sc y) = true from h)
    have sa := ht X sc W y g h2
    refine po_wk (po_some sa.r) fun σ H Q ⟨ρ, l, s, rs, rl, hp⟩ => ?_
    unfold optI at hp
    rw [if_neg (by simpa using h1)] at hp
    refine ⟨ρ, l, s, rs, rl, Post.bind (fun _ _ _ _ _ _ _ _ _ q => q) hp fun x s1 ρ1 H1 v1 e1 rs1 r1 h1 => ?_⟩
    split at h1
    · exact ⟨_, rr_int r1, h1 ρ1 H1 _ .refl rs1 rfl⟩
    · exact h1.elim
theorem s_sl {a lo hi : Ex} (ha : SE T cf k N a) (hl : SE T cf k N lo) (hh : SE T cf k N hi) : SE T cf k N (.sl a lo hi) := by
  intro X sc W e g h
  simp only [ck] at h
  split at h
  · rename_i x l u p1 p2
    obtain ⟨h, h3⟩ := and2 h
    obtain ⟨h1, h2⟩ := and2 h
    have sa := ha X sc W x g h1
    refine snd_mkR rfl rfl (pe_wk (pe_slice (sl_any (W := W0)) sa.r (po_any g hl h2) (po_any g hh h3)) fun σ H Q ⟨ρ, l, s, rs, rl, hp⟩ => ?_)
    refine ⟨ρ, l, s, rs, rl, Post.bind bkRR hp fun x s1 ρ1 H1 v1 e1 rs1 r1 h1 => ⟨ρ1, l, s1, rs1, rl.mono e1, Post.bind bkRR h1 fun i s2 ρ2 H2 i' e2 rs2 r2 h2 => ⟨ρ2, l, s2, rs2, (rl.mono e1).mono e2, Post.bind bkRR h2 fun j s3 ρ3 H3 j' e3 rs3 r3 h3 => ?_⟩⟩⟩
    cases r2
    cases r3
    exact ⟨H, ρ3, s3, x, rs3, RR.mono e3 (RR.mono e2 r1), post_w h3⟩
  · cases h
/-! walks -/
theorem i1_boot (f : I1) : bootBuiltins (f.name : Str) = some (.type f.name) := by cases f <;> decide +kernel
theorem it_rev {K : Kw} {ρ : List Addr} {H : Hp} {p : Addr} {xs : List D} {src : Option (Nat × List D)}
    (h : ∀ (ρ1 : List Addr) (H1 : Hp) (s1 : Sto), Ext K ρ H ρ1 H1 → RS K ρ1 H1 s1 → srcOk src s1 → ∃ vs, SqL K H1 p vs ∧ RVs K ρ1 H1 xs vs) : ItOk K ρ H ⟨xs.reverse, src⟩ (Itv K p xs.length) := by
  intro ρ1 H1 s1 e rs so i
  obtain ⟨vs, h1, h2⟩ := h ρ1 H1 s1 e rs so
  have hl := h2.length
  refine ⟨fun d hd => ?_, fun hi => ?_⟩
  · have hd : xs.reverse[i]? = some d := hd
    have hlt : i < xs.length := by
      have := (List.getElem?_eq_some_iff.mp hd).1
      rwa [List.length_reverse] at this
    rw [List.getElem?_reverse hlt] at hd
    obtain ⟨v, h3, h4⟩ := h2.get hd
    refine ⟨⟨hlt, vs, v, h1, h3⟩, fun x H2 hyx => ?_⟩
    obtain ⟨hy, hx⟩ := hyx
    subst hy
    have := hx vs h1
    rw [h3] at this
    cases this
    exact ⟨.refl, rs, h4⟩
  · have hi : xs.reverse.length = i := hi
    rw [List.length_reverse] at hi
    exact Nat.le_of_eq hi
theorem it_revT {K : Kw} {ρ : List Addr} {H : Hp} {p : Addr} {xs : List D} {vs : List V} {src : Option (Nat × List D)} (h1 : SqT K H p vs) (h2 : RVs K ρ H xs vs) : ItOk K ρ H ⟨xs.reverse, src⟩ (ItvT K p xs.length) := by
  intro ρ1 H1 s1 e rs so i
  have h1 := e.tup _ _ h1
  have h2 := RVs.mono e _ _ h2
  refine ⟨fun d hd => ?_, fun hi => ?_⟩
  · have hd : xs.reverse[i]? = some d := hd
    have hlt : i < xs.length := by
      have := (List.getElem?_eq_some_iff.mp hd).1
      rwa [List.length_reverse] at this
    rw [List.getElem?_reverse hlt] at hd
    obtain ⟨v, h3, h4⟩ := h2.get hd
    refine ⟨⟨hlt, vs, v, h1, h3⟩, fun x H2 hyx => ?_⟩
    obtain ⟨hy, hx⟩ := hyx
    subst hy
    have := hx vs h1
    rw [h3] at this
    cases this
    exact ⟨.refl, rs, h4⟩
  · have hi : xs.reverse.length = i := hi
    rw [List.length_reverse] at hi
    exact Nat.le_of_eq hi
theorem numbered_get : ∀ (xs : List D) (k i : Nat), (numbered k xs)[i]? = (xs[i]?).map fun x => D.tup [.int ((k + i : Nat) : Int), x]
  | [], k, i => by simp [numbered]
  | x :: r, k, 0 => by simp [numbered]
  | x :: r, k, i + 1 => by
    show (numbered (k + 1) r)[i]? = _
    rw [numbered_get r (k + 1) i, show k + 1 + i = k + (i + 1) by omega]
    rfl
theorem numbered_length : ∀ (xs : List D) (k : Nat), (numbered k xs).length = xs.length
  | [], k => rfl
  | x :: r, k => by
    show (numbered (k + 1) r).length + 1 = r.length + 1
    rw [numbered_length]
theorem it_enum {K : Kw} {ρ : List Addr} {H : Hp} {p : Addr} {xs : List D} {src : Option (Nat × List D)}
    (h : ∀ (ρ1 : List Addr) (H1 : Hp) (s1 : Sto), Ext K ρ H ρ1 H1 → RS K ρ1 H1 s1 → srcOk src s1 → ∃ vs, SqL K H1 p vs ∧ RVs K ρ1 H1 xs vs) : ItOk K ρ H ⟨numbered 0 xs, src⟩ (Ite K p) := by
  intro ρ1 H1 s1 e rs so i
  obtain ⟨vs, h1, h2⟩ := h ρ1 H1 s1 e rs so
  have hl := h2.length
  refine ⟨fun d hd => ?_, fun hi => ?_⟩
  · have hd : (numbered 0 xs)[i]? = some d := hd
    rw [numbered_get] at hd
    obtain ⟨z, hz, rfl⟩ := Option.map_eq_some_iff.mp hd
    obtain ⟨v, h3, h4⟩ := h2.get hz
    refine ⟨⟨vs, v, h1, h3⟩, fun x H2 ⟨t, y, hx, ht, hy, hv⟩ => ?_⟩
    subst hx
    subst hy
    have := hv vs h1
    rw [h3] at this
    cases this
    refine ⟨Ext.laid ht, rs.laid ht, rv_tup.mpr ⟨t, _, rfl, SqT.of upd_same, ?_⟩⟩
    refine .cons_ (rv_int.mpr ?_) (.one (RV.mono (Ext.laid ht) _ _ h4))
    rw [Nat.zero_add]
  · have hi : (numbered 0 xs).length = i := hi
    rw [numbered_length] at hi
    exact ⟨vs, h1, by rw [hl]; exact Nat.le_of_eq hi⟩
theorem it_enumT {K : Kw} {ρ : List Addr} {H : Hp} {p : Addr} {xs : List D} {src : Option (Nat × List D)} {vs0 : List V} (k1 : SqT K H p vs0) (k2 : RVs K ρ H xs vs0) : ItOk K ρ H ⟨numbered 0 xs, src⟩ (IteT K p) := by
  intro ρ1 H1 s1 e rs so i
  have h1 := e.tup _ _ k1
  have h2 := RVs.mono e _ _ k2
  have hl := h2.length
  refine ⟨fun d hd => ?_, fun hi => ?_⟩
  · have hd : (numbered 0 xs)[i]? = some d := hd
    rw [numbered_get] at hd
    obtain ⟨z, hz, rfl⟩ := Option.map_eq_some_iff.mp hd
    obtain ⟨v, h3, h4⟩ := h2.get hz
    refine ⟨⟨vs0, v, h1, h3⟩, fun x H2 ⟨t, y, hx, ht, hy, hv⟩ => ?_⟩
    subst hx
    subst hy
    have := hv vs0 h1
    rw [h3] at this
    cases this
    refine ⟨Ext.laid ht, rs.laid ht, rv_tup.mpr ⟨t, _, rfl, SqT.of upd_same, ?_⟩⟩
    refine .cons_ (rv_int.mpr ?_) (.one (RV.mono (Ext.laid ht) _ _ h4))
    rw [Nat.zero_add]
  · have hi : (numbered 0 xs).length = i := hi
    rw [numbered_length] at hi
    exact ⟨vs0, h1, by rw [hl]; exact hi⟩
theorem i1_range {s : Sto} {a : RD} {its : Nv.Its} (h : i1R .range s a = some its) : ∃ j, a = .d (.int j) ∧ small62 j ∧ its = ⟨upTo 0 j.toNat, none⟩ := by
  unfold i1R at h
  simp only at h
  split at h
  · split at h
    · rename_i j c
      cases h
      exact ⟨_, rfl, c, rfl⟩
    · cases h
  · cases h
theorem i2_range {s : Sto} {a b : RD} {its : Nv.Its} (h : i2R .range s a b = some its) : ∃ i j, a = .d (.int i) ∧ b = .d (.int j) ∧ small62 i ∧ small62 j ∧ its = ⟨upTo i (j - i).toNat, none⟩ := by
  unfold i2R at h
  simp only at h
  split at h
  · split at h
    · rename_i c
      cases h
      exact ⟨_, _, rfl, rfl, c.1, c.2, rfl⟩
    · cases h
  · cases h
theorem s_i1 {f : I1} {a : Ex} (ha : SE T cf k N a) : SE T cf k N (.i1 f a) := by
  intro X sc W e g h
  simp only [ck] at h
  split at h
  · rename_i x px y p
    obtain ⟨h, h4⟩ := and2 h
    obtain ⟨h, h3⟩ := and2 h
    obtain ⟨h1, h2⟩ := and2 h
    cases of_decide_eq_true h1
    obtain ⟨g1, g2, g3⟩ := g.gl h2
    have sa := ha X sc W y g h4
    have hst := ok_star sa.ok [] X.env
    refine snd_mkI rfl (fun _ _ _ q => by cases q) fun tg htg => ?_
    cases f with
    | range =>
      refine pi_wk (pi_range1 g1 (g.blt _ h3) (pa_r sa.ok sa.r) hst) fun σ H R ⟨ρ, l, s, rs, rl, hp⟩ => ?_
      refine ⟨ρ, l, s, rs, rl, Post.bind bkIt hp fun x s1 ρ1 H1 v1 e1 rs1 r1 h1 => ?_⟩
      cases e2 : i1R .range s1 x with
      | none => rw [e2] at h1; exact h1.elim
      | some its =>
        rw [e2] at h1
        obtain ⟨j, rfl, c, rfl⟩ := i1_range e2
        exact ⟨j, by rw [rr_int r1], c.1, c.2, h1 ρ1 H1 _ .refl rs1 it_range⟩
    | reversed =>
      refine pi_wk (pi_revA g1 (g.blt _ h3) sa.r hst) fun σ H R ⟨ρ, l, s, rs, rl, hp⟩ => ?_
      refine ⟨ρ, l, s, rs, rl, Post.bind bkIt hp fun x s1 ρ1 H1 v1 e1 rs1 r1 h1 => ?_⟩
      cases e2 : i1R .reversed s1 x with
      | none => rw [e2] at h1; exact h1.elim
      | some its =>
        rw [e2] at h1
        obtain ⟨xs, e3, e4⟩ := Option.map_eq_some_iff.mp (show (asQ s1 x).map (fun xs => (⟨xs.reverse, srcR s1 x⟩ : Nv.Its)) = some its from e2)
        cases e4
        have lst : asL s1 x = some xs → ∃ (a : Addr) (vs : List V), v1 = .ref a ∧ ((SqL X.K H1 a vs ∧ R (Itv X.K a vs.length) H1) ∨ (SqT X.K H1 a vs ∧ R (ItvT X.K a vs.length) H1)) := fun q => by
          obtain ⟨p, vs, hv, k1, k2⟩ := asL_ok rs1 r1 q
          obtain ⟨p', hv', k3⟩ := src_list rs1 r1 q
          rw [hv] at hv'
          cases hv'
          exact ⟨p, vs, hv, .inl ⟨k1, by rw [k2.length]; exact h1 ρ1 H1 _ .refl rs1 (it_rev k3)⟩⟩
        cases x with
        | l ys => exact lst e3
        | m _ => cases e3
        | d z =>
          cases z with
          | tup ys =>
            cases e3
            obtain ⟨p, vs, hv, k1, k2⟩ := rr_tup r1
            exact ⟨p, vs, hv, .inr ⟨k1, by rw [k2.length]; exact h1 ρ1 H1 _ .refl rs1 (it_revT k1 k2)⟩⟩
          | lf ys => exact lst e3
          | obj i => exact lst e3
          | _ => cases e3
    | enumerate =>
      cases tg with
      | Tuple es kk tp =>
        refine pi_wk (pi_enumX g1 (g.blt _ h3) (pa_r sa.ok sa.r) hst) fun σ H R ⟨ρ, l, s, rs, rl, hp⟩ => ?_
        refine ⟨ρ, l, s, rs, rl, Post.bind bkIt hp fun x s1 ρ1 H1 v1 e1 rs1 r1 h1 => ?_⟩
        cases e2 : i1R .enumerate s1 x with
        | none => rw [e2] at h1; exact h1.elim
        | some its =>
          rw [e2] at h1
          have lst : (asL s1 x).map (fun xs => (⟨numbered 0 xs, srcR s1 x⟩ : Nv.Its)) = some its → ∃ (a : Addr) (xs : List V), [v1] = [V.ref a] ∧ ((SqL X.K H1 a xs ∧ R (Ite X.K a) H1) ∨ (SqT X.K H1 a xs ∧ R (IteT X.K a) H1)) := fun q => by
            obtain ⟨xs, e3, e4⟩ := Option.map_eq_some_iff.mp q
            cases e4
            obtain ⟨p, vs, hv, k1, k2⟩ := asL_ok rs1 r1 e3
            obtain ⟨p', hv', k3⟩ := src_list rs1 r1 e3
            rw [hv] at hv'
            cases hv'
            exact ⟨p, vs, by rw [hv], .inl ⟨k1, h1 ρ1 H1 _ .refl rs1 (it_enum k3)⟩⟩
          cases x with
          | l ys => exact lst e2
          | m _ => exact lst e2
          | d z =>
            cases z with
            | tup ys =>
              cases e2
              obtain ⟨p, vs, hv, k1, k2⟩ := rr_tup r1
              exact ⟨p, vs, by rw [hv], .inr ⟨k1, h1 ρ1 H1 _ .refl rs1 (it_enumT k1 k2)⟩⟩
            | _ => exact lst e2
      | _ => cases htg
  · cases h

theorem i2_boot (f : I2) : bootBuiltins (f.name : Str) = some (.type f.name) := by cases f <;> decide +kernel
theorem zipD_get : ∀ (xs ys : List D) (i : Nat) (d : D), (zipD xs ys)[i]? = some d → ∃ x y, xs[i]? = some x ∧ ys[i]? = some y ∧ d = .tup [x, y]
  | [], _, _, _, h => by simp [zipD] at h
  | _ :: _, [], _, _, h => by simp [zipD] at h
  | x :: r, y :: q, 0, d, h => by
    simp [zipD] at h
    exact ⟨x, y, rfl, rfl, h.symm⟩
  | x :: r, y :: q, i + 1, d, h => by
    obtain ⟨a, b, h1, h2, h3⟩ := zipD_get r q i d (by simpa [zipD] using h)
    exact ⟨a, b, by simpa using h1, by simpa using h2, h3⟩
theorem zipD_length : ∀ (xs ys : List D), (zipD xs ys).length = min xs.length ys.length
  | [], _ => by simp [zipD]
  | _ :: _, [] => by simp [zipD]
  | x :: r, y :: q => by
    simp only [zipD, List.length_cons, zipD_length r q]
    omega
/-- a list that no one else may change -/
theorem asL_keep {K : Kw} {ρ : List Addr} {H H0 : Hp} {s : Sto} {a : RD} {x : V} {xs : List D} (r : RR K H0 ρ H a x) (h : asL s a = some xs) (hs : srcR s a = none) :
    ∃ p vs, x = .ref p ∧ SqL K H p vs ∧ RVs K ρ H xs vs ∧ ∀ ρ1 H1, Ext K ρ H ρ1 H1 → SqL K H1 p vs := by
  unfold asL at h
  split at h
  · cases h
    obtain ⟨q, us, e1, e2, e3, e4, _⟩ := r
    exact ⟨q, us, e1, SqL.of e2, e3, fun ρ1 H1 e => SqL.of (e.oth _ _ e2 e4)⟩
  · cases h
    unfold RR RV at r
    obtain ⟨q, us, e1, e2, e3⟩ := r
    exact ⟨q, us, e1, e2.sql, e3, fun ρ1 H1 e => (e.fzl _ _ e2).sql⟩
  · have hs : (lstAt s _).map (fun xs => (_, xs)) = none := hs
    rw [h] at hs
    cases hs
  · cases h
theorem asQ_keep {K : Kw} {ρ : List Addr} {H H0 : Hp} {s : Sto} {a : RD} {x : V} {xs : List D} (r : RR K H0 ρ H a x) (h : asQ s a = some xs) (hs : srcR s a = none) :
    ∃ t p vs, x = .ref p ∧ SqX K t H p vs ∧ RVs K ρ H xs vs ∧ ∀ ρ1 H1, Ext K ρ H ρ1 H1 → SqX K t H1 p vs := by
  have low : asL s a = some xs → ∃ t p vs, x = .ref p ∧ SqX K t H p vs ∧ RVs K ρ H xs vs ∧ ∀ ρ1 H1, Ext K ρ H ρ1 H1 → SqX K t H1 p vs := fun q => by
    obtain ⟨p, vs, e1, e2, e3, e4⟩ := asL_keep r q hs
    exact ⟨false, p, vs, e1, e2, e3, e4⟩
  unfold asQ at h
  split at h
  · exact low h
  · exact low h
  · exact low h
  · cases h
    obtain ⟨p, vs, rfl, k1, k2⟩ := rr_tup r
    exact ⟨true, p, vs, rfl, k1, k2, fun ρ1 H1 e => e.tup _ _ k1⟩
  · cases h
/-- what stays of a sequence that a value or a fresh result reads -/
theorem asQ_src {K : Kw} {ρ : List Addr} {H H0 : Hp} {s : Sto} {a : RD} {x : V} {xs : List D} (rs : RS K ρ H s) (r : RR K H0 ρ H a x) (h : asQ s a = some xs) :
    ∃ t p vs, x = .ref p ∧ SqX K t H p vs ∧ ∀ (ρ1 : List Addr) (H1 : Hp) (s1 : Sto), Ext K ρ H ρ1 H1 → RS K ρ1 H1 s1 → srcOk (srcR s a) s1 → ∃ vs, SqX K t H1 p vs ∧ RVs K ρ1 H1 xs vs := by
  have low : asL s a = some xs → ∃ t p vs, x = .ref p ∧ SqX K t H p vs ∧ ∀ (ρ1 : List Addr) (H1 : Hp) (s1 : Sto), Ext K ρ H ρ1 H1 → RS K ρ1 H1 s1 → srcOk (srcR s a) s1 → ∃ vs, SqX K t H1 p vs ∧ RVs K ρ1 H1 xs vs := fun q => by
    obtain ⟨p, e1, e2⟩ := src_list rs r q
    obtain ⟨p', vs, e3, e4, _⟩ := asL_ok rs r q
    rw [e1] at e3
    cases e3
    exact ⟨false, p, vs, e1, e4, e2⟩
  unfold asQ at h
  split at h
  · exact low h
  · exact low h
  · exact low h
  · cases h
    obtain ⟨p, vs, rfl, k1, k2⟩ := rr_tup r
    exact ⟨true, p, vs, rfl, k1, fun ρ1 H1 s1 e _ _ => ⟨vs, e.tup _ _ k1, RVs.mono e _ _ k2⟩⟩
  · cases h
theorem it_zipX {K : Kw} {ρ : List Addr} {H : Hp} {t1 t2 : Bool} {a b : Addr} {xs ys : List D} {src : Option (Nat × List D)}
    (ha : ∀ (ρ1 : List Addr) (H1 : Hp) (s1 : Sto), Ext K ρ H ρ1 H1 → RS K ρ1 H1 s1 → srcOk src s1 → ∃ vs, SqX K t1 H1 a vs ∧ RVs K ρ1 H1 xs vs) (hb : ∀ (ρ1 : List Addr) (H1 : Hp) (s1 : Sto), Ext K ρ H ρ1 H1 → RS K ρ1 H1 s1 → srcOk src s1 → ∃ us, SqX K t2 H1 b us ∧ RVs K ρ1 H1 ys us) : ItOk K ρ H ⟨zipD xs ys, src⟩ (ItzX K t1 t2 a b) := by
  intro ρ1 H1 s1 e rs so i
  obtain ⟨vs, a1, a2⟩ := ha ρ1 H1 s1 e rs so
  obtain ⟨us, b1, b2⟩ := hb ρ1 H1 s1 e rs so
  refine ⟨fun d hd => ?_, fun hi => ?_⟩
  · obtain ⟨x, y, h1, h2, rfl⟩ := zipD_get xs ys i d hd
    obtain ⟨v, h3, h4⟩ := a2.get h1
    obtain ⟨u, h5, h6⟩ := b2.get h2
    refine ⟨⟨vs, us, v, u, a1, b1, h3, h5⟩, fun z H2 hz => ?_⟩
    obtain ⟨t, v', u', hx, ht, hy, hv, hu⟩ := hz
    subst hx
    subst hy
    have q1 := hv vs a1
    have q2 := hu us b1
    rw [h3] at q1
    rw [h5] at q2
    cases q1
    cases q2
    refine ⟨Ext.laid ht, rs.laid ht, rv_tup.mpr ⟨t, _, rfl, SqT.of upd_same, ?_⟩⟩
    exact .cons_ (RV.mono (Ext.laid ht) _ _ h4) (.one (RV.mono (Ext.laid ht) _ _ h6))
  · have hi : (zipD xs ys).length = i := hi
    rw [zipD_length] at hi
    have l1 := a2.length
    have l2 := b2.length
    exact ⟨vs, us, a1, b1, by omega, by omega, by omega⟩
theorem i2_zip {s : Sto} {a b : RD} {its : Nv.Its} (h : i2R .zip s a b = some its) : ∃ xs ys, asQ s a = some xs ∧ asQ s b = some ys ∧ (∀ s1, srcOk its.src s1 → srcOk (srcR s a) s1 ∧ srcOk (srcR s b) s1) ∧ its.ds = zipD xs ys := by
  unfold i2R at h
  simp only at h
  split at h
  · rename_i xs ys e1 e2 e3
    cases h
    exact ⟨xs, ys, e1, e2, fun s1 so => ⟨by rw [e3]; trivial, so⟩, rfl⟩
  · rename_i xs ys q e1 e2 e3 e4
    cases h
    exact ⟨xs, ys, e1, e2, fun s1 so => ⟨by rw [e3]; exact so, by rw [e4]; trivial⟩, rfl⟩
  · cases h
theorem s_i2 {f : I2} {a b : Ex} (ha : SE T cf k N a) (hb : SE T cf k N b) : SE T cf k N (.i2 f a b) := by
  intro X sc W e g h
  simp only [ck] at h
  split at h
  · rename_i x px y z p
    obtain ⟨h, h5⟩ := and2 h
    obtain ⟨h, h4⟩ := and2 h
    obtain ⟨h, h3⟩ := and2 h
    obtain ⟨h1, h2⟩ := and2 h
    cases of_decide_eq_true h1
    obtain ⟨g1, g2, g3⟩ := g.gl h2
    have sa := ha X sc W y g h4
    have sb := hb X sc W z g h5
    have st1 := ok_star sa.ok [z] X.env
    have st2 := ok_star sb.ok [] X.env
    have pa := pa_cons sa.r (pa_r sb.ok sb.r) st1
    refine snd_mkI rfl (fun _ _ _ q => by cases q) fun tg htg => ?_
    cases f with
    | range =>
      refine pi_wk (pi_range2 g1 (g.blt _ h3) pa (by rw [st1, st2]; rfl) st2) fun σ H R ⟨ρ, l, s, rs, rl, hp⟩ => ?_
      refine ⟨ρ, l, s, rs, rl, Post.bind bkIt hp fun x s1 ρ1 H1 v1 e1 rs1 r1 h1 => ⟨ρ1, l, s1, rs1, rl.mono e1, Post.bind bkIt h1 fun y s2 ρ2 H2 v2 e2 rs2 r2 h2 => ?_⟩⟩
      cases e3 : i2R .range s2 x y with
      | none => rw [e3] at h2; exact h2.elim
      | some its =>
        rw [e3] at h2
        obtain ⟨i, j, rfl, rfl, c1, c2, rfl⟩ := i2_range e3
        exact ⟨i, j, by rw [rr_int (RR.mono e2 r1), rr_int r2], ⟨c1.1, c1.2, c2.1, c2.2⟩, h2 ρ2 H2 _ .refl rs2 it_range⟩
    | zip =>
      cases tg with
      | Tuple es kk tp =>
        refine pi_wk (pi_zipX g1 (g.blt _ h3) pa st1 (by rw [st2]; rfl)) fun σ H R ⟨ρ, l, s, rs, rl, hp⟩ => ?_
        refine ⟨ρ, l, s, rs, rl, Post.bind bkIt hp fun x s1 ρ1 H1 v1 e1 rs1 r1 h1 => ⟨ρ1, l, s1, rs1, rl.mono e1, Post.bind bkIt h1 fun y s2 ρ2 H2 v2 e2 rs2 r2 h2 => ?_⟩⟩
        have r1 := RR.mono e2 r1
        cases e3 : i2R .zip s2 x y with
        | none => rw [e3] at h2; exact h2.elim
        | some its =>
          rw [e3] at h2
          obtain ⟨xs, ys, q1, q2, q3, q4⟩ := i2_zip e3
          obtain ⟨ds, src⟩ := its
          cases q4
          obtain ⟨t1, p1, vs, rfl, k1, k5⟩ := asQ_src rs2 r1 q1
          obtain ⟨t2, p2, us, rfl, k3, k6⟩ := asQ_src rs2 r2 q2
          exact ⟨p1, p2, t1, t2, vs, us, rfl, k1, k3, h2 ρ2 H2 _ .refl rs2 (it_zipX (fun ρ1 H1 s1 e rs so => k5 ρ1 H1 s1 e rs (q3 s1 so).1) fun ρ1 H1 s1 e rs so => k6 ρ1 H1 s1 e rs (q3 s1 so).2)⟩
      | _ => cases htg
  · cases h
end
end Nv

set_option Elab.async false
set_option linter.all false
set_option maxRecDepth 100000
set_option autoImplicit false
set_option maxHeartbeats 4000000
/-! NvFs: sorted(set(xs)), len(set(xs)). -/
namespace Nv
open PySem PySem.Spec PyProof.Rows L2

/-! ### lists without doubles -/
section
variable {α : Type} [DecidableEq α]
theorem mem_uniq {x : α} : ∀ {l : List α}, x ∈ uniq l ↔ x ∈ l
  | [] => Iff.rfl
  | y :: l => by
    unfold uniq
    split
    · rename_i h
      rw [mem_uniq, List.mem_cons]
      exact ⟨.inr, fun q => q.elim (fun e => by rw [e]; exact h) id⟩
    · rw [List.mem_cons, List.mem_cons, mem_uniq]
theorem uniq_nodup : ∀ l : List α, (uniq l).Nodup
  | [] => List.nodup_nil
  | y :: l => by
    unfold uniq
    split
    · exact uniq_nodup l
    · rename_i h
      exact List.nodup_cons.mpr ⟨fun q => h (mem_uniq.mp q), uniq_nodup l⟩
theorem uniq_len : ∀ l : List α, (uniq l).length ≤ l.length
  | [] => Nat.le_refl _
  | y :: l => by
    have := uniq_len l
    unfold uniq
    split
    · rw [List.length_cons]; omega
    · rw [List.length_cons, List.length_cons]; omega
theorem uniq_id : ∀ {l : List α}, l.Nodup → uniq l = l
  | [], _ => rfl
  | y :: l, h => by
    obtain ⟨h1, h2⟩ := List.nodup_cons.mp h
    unfold uniq
    rw [if_neg h1, uniq_id h2]
theorem From.uniq_perm {ks L : List (Value × α)} (g : From ks ks.length L) : (L.map (·.2)).Perm (uniq (ks.map (·.2))) := by
  refine (List.perm_ext_iff_of_nodup g.nd (uniq_nodup _)).mpr fun x => ?_
  rw [mem_uniq]
  constructor
  · intro h
    obtain ⟨p, hp, e⟩ := List.mem_map.mp h
    exact List.mem_map.mpr ⟨p, g.sub p hp, e⟩
  · intro h
    obtain ⟨p, hp, e⟩ := List.mem_map.mp h
    rw [← e]
    exact g.all p (by rw [List.take_length]; exact hp)
end
theorem sort_perm {l m : List Str} (p : l.Perm m) : l.mergeSort leS = m.mergeSort leS := by
  refine List.Perm.eq_of_pairwise (le := fun a b => leS a b = true) (fun a b _ _ p q => ?_) (pw_sort _) (pw_sort _) ((List.mergeSort_perm _ _).trans (p.trans (List.mergeSort_perm _ _).symm))
  have := List.le_antisymm (of_decide_eq_true p) (of_decide_eq_true q)
  cases a; cases b
  simpa using this

/-! ### the sets as things of the heap -/
def TSO (P : Program) (w : World) (a : Addr) (L : List (Value × Str)) : HO := .ext fun h => TSt P w h a L
def NSO (w : World) (a : Addr) (L : List (Value × NestedKey)) : HO := .ext fun h => NSt w (NestedKey.hash w) h a L
theorem tso_ok {P : Program} {w : World} {H : Hp} {h : Heap} {a : Addr} {L : List (Value × Str)} (S : TSt P w h a L) : ObjOk P w H h a (TSO P w a L) := by
  obtain ⟨D, h1, h2⟩ := id S
  exact ⟨S, ⟨_, h1⟩, fun x y p k => addsS.stay p k⟩
theorem nso_ok {P : Program} {w : World} {H : Hp} {h : Heap} {a : Addr} {L : List (Value × NestedKey)} (S : NSt w (NestedKey.hash w) h a L) : ObjOk P w H h a (NSO w a L) := by
  obtain ⟨es, ep, t, R⟩ := id S
  obtain ⟨o, ho, _⟩ := R.ob
  exact ⟨S, ⟨o, ho⟩, fun x y p k => (addsT (P := P) sideN).stay p k⟩
section
variable {X : Cx}
/-- the items as pairs -/
theorem pairs {κ : Type} {Is : Heap → κ → Value → Prop} {h : Heap} : ∀ {us : List Value} {ks : List κ}, PySem.W.EachIs (fun v k => Is h k v) us ks → ∃ ps : List (Value × κ), us = ps.map (·.1) ∧ ps.map (·.2) = ks ∧ ∀ p ∈ ps, Is h p.2 p.1
  | _, _, .nil => ⟨[], rfl, rfl, fun p hp => by cases hp⟩
  | _, _, .cons (a := v) (b := k) r t => by
    obtain ⟨ps, h1, h2, h3⟩ := pairs t
    refine ⟨(v, k) :: ps, by rw [h1]; rfl, by rw [List.map_cons, h2], fun p hp => ?_⟩
    rcases List.mem_cons.mp hp with e | z
    · rw [e]; exact r
    · exact h3 p z
/-- set(xs) -/
def rSetX (X : Cx) : List V → Hp → VK → Prop := fun xs H Q => ∃ (l : Addr) (vs : List V), xs = [.ref l] ∧ SqL X.K H l vs ∧ vs.length < 77 ∧
  ((∃ ss : List Str, vs = ss.map V.str ∧ ∀ a L, H a = none → L.length < 77 → (L.map (·.2)).Nodup → (L.map (·.2)).Perm (uniq ss) → Q (.ref a) (upd H a (TSO X.prog X.w a L))) ∨
   ∃ ks : List NestedKey, (∀ (pins : List (Addr × Obj)) (σ : L2.St) (s : Shared) (us : List Value), Inv X pins σ H s → Vals vs us → PySem.W.EachIs (fun v k => IsN s.heap k v) us ks) ∧
     ∀ a L, H a = none → L.length < 77 → (L.map (·.2)).Perm (uniq ks) → Q (.ref a) (upd H a (NSO X.w a L)))
theorem each_strs {h : Heap} : ∀ {ss : List Str} {us : List Value}, Vals (ss.map V.str) us → PySem.W.EachIs (fun v k => IsS h k v) us ss
  | [], _, .nil => .nil
  | x :: ss, _, .cons r t => .cons r (each_strs t)
theorem cr_setX (hc : X.calm = true) (hu : X.A.units + 63 < cLine) : CallR X (.type "set") (rSetX X) := by
  intro pins s σ H xs us Q I r h
  obtain ⟨l, vs, rfl, hl, few, h⟩ := h
  rw [Vals.ref1 r]
  obtain ⟨its, rv, pl, hz⟩ := I.list hl
  have hn : H s.heap.objs.size = none := I.hok.fresh (Nat.le_refl _)
  have hlen := rv.length
  rcases h with ⟨ss, rfl, q⟩ | ⟨ks, hk, q⟩
  · obtain ⟨ps, e1, e2, e3⟩ := pairs (Is := IsS) (h := s.heap) (each_strs rv)
    have el : ps.length < 77 := by rw [← List.length_map (f := (·.2)), e2]; rwa [List.length_map] at few
    refine call_setA addsS ps (I.ok.hd hc) pl.isList (by simpa using e1) e3 el hu fun h' tk L S g k => ?_
    exact ⟨.ref s.heap.objs.size, _, I.laid (t' := tk) k (Nat.le_refl _) (tso_ok S), rfl, q _ L hn (Nat.lt_of_le_of_lt g.len el) g.nd (by rw [← e2]; exact g.uniq_perm)⟩
  · obtain ⟨ps, e1, e2, e3⟩ := pairs (hk pins σ s its I rv)
    have el : ps.length < 77 := by
      have := congrArg List.length e1
      rw [List.length_map] at this
      omega
    refine call_setA (addsT sideN) ps (I.ok.hd hc) pl.isList (by simpa using e1) e3 el hu fun h' tk L S g k => ?_
    exact ⟨.ref s.heap.objs.size, _, I.laid (t' := tk) k (Nat.le_refl _) (nso_ok S), rfl, q _ L hn (Nat.lt_of_le_of_lt g.len el) (by rw [← e2]; exact g.uniq_perm)⟩
/-- sorted(set) -/
def rSortX (X : Cx) : List V → Hp → VK → Prop := fun xs H Q => ∃ (a : Addr) (L : List (Value × Str)), xs = [.ref a] ∧ H a = some (TSO X.prog X.w a L) ∧ L.length < 77 ∧ (L.map (·.2)).Nodup ∧ ∀ p, H p = none → Q (.ref p) (upd H p (.lst (((L.map (·.2)).mergeSort leS).map V.str)))
theorem vals_each : ∀ {out : List Value} {ss : List Str}, PySem.W.EachIs (fun v b => ∃ t, v = Value.str b t) out ss → Vals (ss.map V.str) out
  | _, _, .nil => .nil
  | _, _, .cons r t => .cons r (vals_each t)
theorem cr_sortX (hc : X.calm = true) (hu : X.A.units + 63 < cLine) : CallR X (.builtin "sorted") (rSortX X) := by
  intro pins s σ H xs us Q I r h
  obtain ⟨a, L, rfl, ha, few, nd, q⟩ := h
  rw [Vals.ref1 r]
  refine sorted_setS (I.hok a _ ha).1 nd few (I.ok.hd hc) (by omega) fun s' p c out k g o hp hg e => ?_
  have hn : H p = none := I.hok.fresh hp
  have hv := vals_each e
  have hz : (((L.map (·.2)).mergeSort leS).map V.str).length ≤ sizeLine := by
    rw [List.length_map, (List.mergeSort_perm _ _).length_eq, List.length_map, sizeLine_eq]
    omega
  have J : Inv X pins σ (upd H p (.lst (((L.map (·.2)).mergeSort leS).map V.str))) { s with heap := s'.heap, gens := s'.gens, drawn := s'.drawn, toks := s'.toks } :=
    I.call (ch := []) (Un.laid k hp hn) (I.hok.laid k hp ⟨hz, out.toArray.toList, c, by simpa using hv, hg⟩) (by rw [g]; exact I.bare) (fun _ z => nomatch z)
  have es : s' = { s with heap := s'.heap, gens := s'.gens, drawn := s'.drawn, toks := s'.toks } := by
    cases s'
    cases s
    cases o
    rfl
  rw [es]
  exact ⟨.ref p, _, J, rfl, q p hn⟩
/-- len(set) -/
def rLenX (X : Cx) : List V → Hp → VK → Prop := fun xs H Q => ∃ (a : Addr) (n : Nat), xs = [.ref a] ∧ n < 77 ∧ ((∃ L, H a = some (TSO X.prog X.w a L) ∧ L.length = n) ∨ ∃ L, H a = some (NSO X.w a L) ∧ L.length = n) ∧ Q (.int n) H
theorem cr_lenX : CallR X (.builtin "len") (rLenX X) := by
  intro pins s σ H xs us Q I r h
  obtain ⟨a, n, rfl, few, h, q⟩ := h
  rw [Vals.ref1 r]
  have fin : ∀ (o : Obj) (es : Array (Int × Value)) (ep : Nat) (t : SetTable), s.heap.get? a = some o → o.ExactSet → o.data = .set es ep t → t.fits es.size = true → es.size = n →
      wpAny (model X.prog X.w) X.A (call (.builtin "len") [.ref a]) (EP X pins σ Q) X.xe s := fun o es ep t h1 h2 h3 h4 h5 => by
    refine call_len_set h1 h2 h3 h4 (by rw [h5]; omega) ⟨.int n, H, I.tok _, ⟨_, by rw [h5]⟩, q⟩
  rcases h with ⟨L, h1, h2⟩ | ⟨L, h1, h2⟩
  · obtain ⟨⟨es, ep, t⟩, g1, g2, _⟩ : TSt X.prog X.w s.heap a L := (I.hok a _ h1).1
    exact fin _ es ep t g1 ⟨rfl, rfl, rfl⟩ rfl g2.fit (by rw [← h2, ← List.length_map (f := (·.2))]; exact g2.sz)
  · obtain ⟨es, ep, t, R⟩ : NSt X.w (NestedKey.hash X.w) s.heap a L := (I.hok a _ h1).1
    obtain ⟨o, g1, g2, g3⟩ := R.ob
    exact fin o es ep t g1 g2 g3 R.fit (by rw [R.size, h2])
end
/-! ### the data as keys -/
section
variable {X : Cx} {ρ : List Addr} {H : Hp}
theorem rvs_strs {K : Kw} : ∀ ss : List Str, RVs K ρ H (ss.map D.str) (ss.map V.str)
  | [] => .nil_
  | x :: r => .cons_ (rv_str.mpr rfl) (rvs_strs r)
theorem strsOf_ok {K : Kw} : ∀ {ds : List D} {vs : List V} {ss : List Str}, RVs K ρ H ds vs → strsOf ds = some ss → vs = ss.map V.str
  | [], vs, ss, h, e => by unfold RVs at h; unfold strsOf at e; subst h; cases e; rfl
  | d :: ds, vs, ss, h, e => by
    unfold RVs at h
    obtain ⟨v, r, rfl, h2, h3⟩ := h
    cases d with
    | str b =>
      unfold strsOf at e
      obtain ⟨cs, q, rfl⟩ := Option.map_eq_some_iff.mp e
      rw [strsOf_ok h3 q, rv_str.mp h2]
      rfl
    | _ => unfold strsOf at e; cases e
variable {pins : List (Addr × Obj)} {σ : L2.St} {s : Shared}
mutual
theorem key_is (I : Inv X pins σ H s) : ∀ (d : D) (v : V) (u : Value) (k : NestedKey), RV X.kw ρ H d v → RelV v u → keyOf d = some k → NestedIs s.heap k u
  | .non, v, u, k, h, r, e => by unfold RV at h; unfold keyOf at e; cases e; subst h; cases r; exact .none
  | .bl b, v, u, k, h, r, e => by unfold RV at h; unfold keyOf at e; cases e; subst h; cases r; exact .bool rfl
  | .int i, v, u, k, h, r, e => by unfold RV at h; unfold keyOf at e; cases e; subst h; obtain ⟨t, rfl⟩ := r; exact .int i t
  | .str x, v, u, k, h, r, e => by unfold RV at h; unfold keyOf at e; cases e; subst h; obtain ⟨t, rfl⟩ := r; exact .text x t
  | .tup ds, v, u, k, h, r, e => by
    unfold RV at h
    unfold keyOf at e
    obtain ⟨ks, e1, rfl⟩ := Option.map_eq_some_iff.mp e
    obtain ⟨a, vs, rfl, h1, h2⟩ := h
    cases r
    obtain ⟨its, rv, ⟨o, ho, hc, n, hd⟩, _⟩ := I.tuple h1
    exact .tup ho hc hd (by simpa using keys_is I ds vs its ks h2 rv e1)
  | .lf _, v, u, k, h, r, e => by unfold keyOf at e; cases e
  | .ld _ _, v, u, k, h, r, e => by unfold keyOf at e; cases e
  | .obj _, v, u, k, h, r, e => by unfold keyOf at e; cases e
theorem keys_is (I : Inv X pins σ H s) : ∀ (ds : List D) (vs : List V) (us : List Value) (ks : List NestedKey), RVs X.kw ρ H ds vs → Vals vs us → keysOf ds = some ks → NestedAll s.heap ks us
  | [], vs, us, ks, h, r, e => by unfold RVs at h; unfold keysOf at e; cases e; subst h; cases r; exact .nil
  | d :: ds, vs, us, ks, h, r, e => by
    unfold RVs at h
    unfold keysOf at e
    obtain ⟨v, vr, rfl, h1, h2⟩ := h
    obtain ⟨k, e1, e2⟩ := bindo e
    obtain ⟨kr, e3, rfl⟩ := Option.map_eq_some_iff.mp e2
    cases r with
    | cons r1 r2 => exact .cons (key_is I d v _ k h1 r1 e1) (keys_is I ds vr _ kr h2 r2 e3)
end
theorem tupK_ok {k : NestedKey} (h : tupK k = true) : (∃ ks, k = .tup ks) ∧ k.depth ≤ 8 := by
  cases k with
  | tup ks => exact ⟨⟨ks, rfl⟩, of_decide_eq_true h⟩
  | _ => cases h
theorem each_n {h : Heap} : ∀ {ks : List NestedKey} {us : List Value}, NestedAll h ks us → ks.all tupK = true → PySem.W.EachIs (fun v k => IsN h k v) us ks
  | _, _, .nil, _ => .nil
  | k :: ks, u :: us, .cons r t, q => by
    rw [List.all_cons] at q
    obtain ⟨q1, q2⟩ := and2 q
    obtain ⟨⟨kk, rfl⟩, d⟩ := tupK_ok q1
    refine .cons ⟨?_, r, d⟩ (each_n t q2)
    cases r
    exact ⟨_, rfl⟩
end
section
variable {T : Tab} {cf : Nat → List D → Sto → Res RD} {k : Nat} {N : List Str}
theorem s_fs {f : FS} {a : Ex} (ha : SE T cf k N a) : SE T cf k N (.fs f a) := by
  intro X sc W e g h
  simp only [ck] at h
  split at h
  · rename_i x px z pz y pi p
    obtain ⟨h, h7⟩ := and2 h
    obtain ⟨h, h6⟩ := and2 h
    obtain ⟨h, h5⟩ := and2 h
    obtain ⟨h, h4⟩ := and2 h
    obtain ⟨h, h3⟩ := and2 h
    obtain ⟨h1, h2⟩ := and2 h
    obtain ⟨g1, g2, g3⟩ := g.gl h2
    obtain ⟨k1, k2, k3⟩ := g.gl h5
    have sa := ha X sc W y g h7
    have hu := g.hu
    have hs : bootBuiltins z = some (.type "set") := by rw [of_decide_eq_true h4]; decide +kernel
    have inner := pe_callV (p := pz) (pos := pi) (.inr ⟨_, rfl⟩) (cr_setX g.calm (by omega)) k1 (g.blt z h6) hs (pa_r sa.ok sa.r) k3 k2 (ok_star sa.ok [] X.env) rfl
    have ext : ∀ {ρ : List Addr} {H : Hp} {st : Sto} {a : Addr} {o : HO}, H a = none → RS X.kw ρ H st → Ext X.kw ρ H ρ (upd H a o) ∧ RS X.kw ρ (upd H a o) st := fun hn rs => ⟨Ext.laid hn, rs.laid hn⟩
    cases f with
    | sortset =>
      have hb : bootBuiltins x = some (.builtin "sorted") := by rw [of_decide_eq_true h1]; decide +kernel
      refine snd_mkR rfl rfl (pe_wk (pe_callV (.inl ⟨_, rfl⟩) (cr_sortX g.calm (by omega)) g1 (g.blt x h3) hb (pa_cons inner pa_nil rfl) g3 g2 rfl rfl) fun σ H Q ⟨ρ, l, s, rs, rl, hp⟩ => ?_)
      refine ⟨ρ, l, s, rs, rl, Post.bind bkRR hp fun d s1 ρ1 H1 v1 e1 rs1 r1 hq => ?_⟩
      obtain ⟨o, eo, hq⟩ := post_o hq
      unfold fsR at eo
      obtain ⟨ds, e2, e3⟩ := bindo eo
      split at e3
      · rename_i few
        obtain ⟨ss, e4, rfl⟩ := Option.map_eq_some_iff.mp e3
        obtain ⟨pl, vs, rfl, q1, q2⟩ := asL_ok rs1 r1 e2
        refine ⟨pl, vs, rfl, q1, by rw [q2.length]; exact few, .inl ⟨ss, strsOf_ok q2 e4, fun b L hn ll nd pm => ?_⟩⟩
        obtain ⟨x1, x2⟩ := ext (st := s1) (o := TSO X.prog X.w b L) hn rs1
        refine ⟨b, L, rfl, upd_same, ll, nd, fun p2 hn2 => ?_⟩
        rw [sort_perm pm]
        exact post_laid x2 (rvs_strs _) (Post.mono bkRR x1 hq) hn2
      · cases e3
    | lenset =>
      have hb : bootBuiltins x = some (.builtin "len") := by rw [of_decide_eq_true h1]; decide +kernel
      refine snd_mkR rfl rfl (pe_wk (pe_callV (.inl ⟨_, rfl⟩) cr_lenX g1 (g.blt x h3) hb (pa_cons inner pa_nil rfl) g3 g2 rfl rfl) fun σ H Q ⟨ρ, l, s, rs, rl, hp⟩ => ?_)
      refine ⟨ρ, l, s, rs, rl, Post.bind bkRR hp fun d s1 ρ1 H1 v1 e1 rs1 r1 hq => ?_⟩
      obtain ⟨o, eo, hq⟩ := post_o hq
      unfold fsR at eo
      obtain ⟨ds, e2, e3⟩ := bindo eo
      split at e3
      · rename_i few
        obtain ⟨pl, vs, rfl, q1, q2⟩ := asL_ok rs1 r1 e2
        simp only at e3
        split at e3
        · rename_i ss e4
          cases e3
          refine ⟨pl, vs, rfl, q1, by rw [q2.length]; exact few, .inl ⟨ss, strsOf_ok q2 e4, fun b L hn ll nd pm => ?_⟩⟩
          obtain ⟨x1, x2⟩ := ext (st := s1) (o := TSO X.prog X.w b L) hn rs1
          have pl2 := pm.length_eq
          rw [List.length_map] at pl2
          exact ⟨b, (uniq ss).length, rfl, by omega, .inl ⟨L, upd_same, pl2⟩, post_val x2 (Post.mono bkRR x1 hq) (rv_int.mpr rfl)⟩
        · obtain ⟨ks, e5, e6⟩ := bindo e3
          split at e6
          · rename_i all
            cases e6
            refine ⟨pl, vs, rfl, q1, by rw [q2.length]; exact few, .inr ⟨ks, fun pins σ s us I r => each_n (keys_is I ds vs us ks q2 r e5) all, fun b L hn ll pm => ?_⟩⟩
            obtain ⟨x1, x2⟩ := ext (st := s1) (o := NSO X.w b L) hn rs1
            have pl2 := pm.length_eq
            rw [List.length_map] at pl2
            exact ⟨b, (uniq ks).length, rfl, by omega, .inr ⟨L, upd_same, pl2⟩, post_val x2 (Post.mono bkRR x1 hq) (rv_int.mpr rfl)⟩
          · cases e6
      · cases e3
  · cases h
end
end Nv

set_option Elab.async false
set_option linter.all false
set_option maxRecDepth 100000
set_option autoImplicit false
set_option maxHeartbeats 4000000
/-! NvItS: sorted(d.items()). -/
namespace Nv
open PySem PySem.Spec PyProof.Rows L2
section
variable {K : Kw} {ρ : List Addr}
theorem ext_put {s : Sto} : ∀ (as : List Addr) (kvs : List (Key × V)) (H : Hp), as.Nodup → (∀ a ∈ as, H a = none) → RS K ρ H s → Ext K ρ H ρ (LiI.putT H as kvs) ∧ RS K ρ (LiI.putT H as kvs) s
  | [], _, H, _, _, rs => ⟨.refl, rs⟩
  | _ :: _, [], H, _, _, rs => ⟨.refl, rs⟩
  | a :: as, p :: kvs, H, nd, hf, rs => by
    obtain ⟨n1, n2⟩ := List.nodup_cons.mp nd
    have hn := hf a (.head _)
    obtain ⟨e, r⟩ := ext_put as kvs (upd H a (.tup [kV p.1, p.2])) n2 (fun c hc => by rw [upd_ne (fun z => n1 (by rw [← z]; exact hc))]; exact hf c (.tail _ hc)) (rs.laid hn)
    exact ⟨(Ext.laid hn).trans e, r⟩
theorem tx_of : ∀ {vs : List (Key × V)} {ks : List Str}, vs.map (fun p => keyD p.1) = ks.map D.str → vs = (ks.zip (vs.map (·.2))).map txK
  | [], [], _ => rfl
  | [], _ :: _, h => by cases h
  | _ :: _, [], h => by cases h
  | (k, v) :: vs, x :: ks, h => by
    rw [List.map_cons, List.map_cons] at h
    injection h with h1 h2
    have hk : k = Sum.inr x := by
      cases k with
      | inl i => exact D.noConfusion h1
      | inr y =>
        have : D.str y = D.str x := h1
        injection this with e
        rw [e]
    have ih := tx_of h2
    rw [List.map_cons, List.zip_cons_cons, List.map_cons, ← ih, hk]
theorem rvs_map {α : Type} {H : Hp} {f : α → D} {g : α → V} : ∀ {l : List α}, (∀ z ∈ l, RV K ρ H (f z) (g z)) → RVs K ρ H (l.map f) (l.map g)
  | [], _ => .nil_
  | z :: l, h => .cons_ (h z (.head _)) (rvs_map fun y hy => h y (.tail _ hy))
end
theorem sorted_map {α β : Type} {r : α → α → Bool} {s : β → β → Bool} {f : α → β} (h : ∀ a b, r a b = s (f a) (f b)) (l : List α) : (l.mergeSort r).map f = (l.map f).mergeSort s := List.map_mergeSort (fun a _ b _ => h a b)
section
variable {T : Tab} {cf : Nat → List D → Sto → Res RD} {k : Nat} {N : List Str}
theorem s_rev {a : Ex} (ha : SE T cf k N a) : SE T cf k N (.rev a) := by
  intro X sc W e g h
  simp only [ck] at h
  split at h
  · have sa := ha X sc W _ g h
    refine snd_mkR rfl rfl (pe_wk (pe_revL sa.r) fun σ H Q ⟨ρ, l, s, rs, rl, hp⟩ => ?_)
    refine ⟨ρ, l, s, rs, rl, Post.bind bkRR hp fun d s1 ρ1 H1 v1 e1 rs1 r1 hq => ?_⟩
    obtain ⟨o, eo, hq⟩ := post_o hq
    obtain ⟨xs, e2, rfl⟩ := Option.map_eq_some_iff.mp eo
    obtain ⟨p, vs, rfl, h1, h2⟩ := asL_ok rs1 r1 e2
    exact ⟨p, vs, rfl, h1, fun q hn => post_laid rs1 h2.reverse hq hn⟩
  · cases h
theorem s_si {a : Ex} (ha : SE T cf k N a) : SE T cf k N (.si a) := by
  intro X sc W e g h
  simp only [ck] at h
  split at h
  · rename_i x px y m ap cp pi
    obtain ⟨h, h7⟩ := and2 h
    obtain ⟨h, h6⟩ := and2 h
    obtain ⟨h, h5⟩ := and2 h
    obtain ⟨h, h4⟩ := and2 h
    obtain ⟨h, h3⟩ := and2 h
    obtain ⟨h1, h2⟩ := and2 h
    cases of_decide_eq_true h4
    obtain ⟨g1, g2, g3⟩ := g.gl h2
    have sa := ha X sc W y g h7
    have hu := g.hu
    have inner := pe_itemsN (apos := ap) (cpos := cp) sa.v (base_ok h6 _ _) h5
    have hb : bootBuiltins x = some (.builtin "sorted") := by rw [of_decide_eq_true h1]; decide +kernel
    refine snd_mkR rfl rfl (pe_wk (pe_callV (.inl ⟨_, rfl⟩) (cr_or (cr_sortIt g.calm (by omega)) (cr_sortItN g.calm (by omega))) g1 (g.blt x h3) hb (pa_cons inner pa_nil rfl) g3 g2 rfl rfl) fun σ H Q ⟨ρ, l, s, rs, rl, hp⟩ => ?_)
    refine ⟨ρ, l, s, rs, rl, Post.bind bkRR hp fun d s1 ρ1 H1 v1 e1 rs1 r1 hq => ?_⟩
    obtain ⟨o, eo, hq⟩ := post_o hq
    have ra : RR X.kw H1 ρ1 H1 (.d d) v1 := r1
    unfold siR at eo
    split at eo
    case h_2 =>
      obtain ⟨kvs, e2, e3⟩ := bindo eo
      obtain ⟨rs', e4, rfl⟩ := Option.map_eq_some_iff.mp e3
      obtain ⟨ps, e5, ok, rfl⟩ := srtD_some e4
      obtain ⟨p, kv, wv, rfl, rk, rw', raw⟩ := raw_any rs1 ra e2
      refine ⟨p, kv, wv, rfl, rfl, raw, fun p2 hn => .inr ?_⟩
      have x0 := Ext.laid (K := X.kw) (ρ := ρ1) (o := DX.itemsO p2 p) hn
      have r0 := rs1.laid (o := DX.itemsO p2 p) hn
      obtain ⟨p', kv', wv', ep, rk', rw'', raw'⟩ := raw_any r0 (RR.mono x0 ra) e2
      cases ep
      refine ⟨p2, p, ρ1, kvs, kv', wv', ps, rfl, upd_same, raw', rk', rw'', e5, ok, fun as l2 ws nd hfa hl hla rws => ?_⟩
      obtain ⟨x1, r2⟩ := ext_putP as (kv'.zip wv') _ nd hfa r0
      have hl3 : putP (upd H1 p2 (DX.itemsO p2 p)) as (kv'.zip wv') l2 = none := by rw [putP_off as _ _ hla]; exact hl
      have x2 := Ext.laid (K := X.kw) (ρ := ρ1) (o := .lst ws) hl3
      have r3 := r2.laid (o := .lst ws) hl3
      have ee := (x0.trans x1).trans x2
      exact hq ρ1 _ (.ref l2) ee r3 ⟨l2, ws, rfl, upd_same, RVs.mono x2 _ _ rws, r0.fresh hl, x0.bk l2 hl⟩
    rename_i r0' eo'
    cases eo
    unfold siR0 at eo'
    obtain ⟨kvs, e2, e3⟩ := bindo eo'
    obtain ⟨ks, e4, rfl⟩ := Option.map_eq_some_iff.mp e3
    obtain ⟨p, vs, rfl, hp1, q1, q2⟩ := dctAt_ok rs1 ra e2
    have hks : kvs.map (·.1) = ks.map D.str := by
      have : ∀ {ds : List D} {ks : List Str}, strsOf ds = some ks → ds = ks.map D.str := by
        intro ds
        induction ds with
        | nil => intro ks h; unfold strsOf at h; cases h; rfl
        | cons d ds ih =>
          intro ks h
          cases d with
          | str b =>
            unfold strsOf at h
            obtain ⟨cs, q, rfl⟩ := Option.map_eq_some_iff.mp h
            rw [ih q]; rfl
          | _ => unfold strsOf at h; cases h
      exact this e4
    have htx := tx_of (q1.trans hks)
    have lks : ks.length = vs.length := by
      have := congrArg List.length (q1.trans hks)
      rw [List.length_map, List.length_map] at this
      exact this.symm
    have lds : (kvs.map (·.2)).length = (vs.map (·.2)).length := q2.length.symm
    refine ⟨p, _, _, rfl, rfl, raw_k hp1, fun p2 hn => .inl ?_⟩
    have hne : p ≠ p2 := fun z => by
      rcases hp1 with r | ⟨_, r⟩ <;> (rw [z, hn] at r; cases r)
    have hp2 : Rd (upd H1 p2 (DX.itemsO p2 p)) p (.dK ((ks.zip (vs.map (·.2))).map txK)) := by
      rw [← htx]
      rcases hp1 with r | ⟨o, r⟩
      · exact .inl (by rw [upd_ne hne]; exact r)
      · exact .inr ⟨o, by rw [upd_ne hne]; exact r⟩
    have hfst : (ks.zip (vs.map (·.2))).map (·.1) = ks := zipF _ _ (by rw [List.length_map]; exact lks)
    have hsnd : (ks.zip (vs.map (·.2))).map (·.2) = vs.map (·.2) := zipS _ _ (by rw [List.length_map]; exact lks)
    refine ⟨p2, p, ks.zip (vs.map (·.2)), rfl, upd_same, hp2, fun nk as l2 la nd hfa hl hla => ?_⟩
    have lz : (ks.zip (vs.map (·.2))).length = ks.length := by rw [List.length_zip, List.length_map]; omega
    rw [lz] at la
    rw [hfst]
    have x0 := Ext.laid (K := X.kw) (ρ := ρ1) (o := DX.itemsO p2 p) hn
    have r0 := rs1.laid (o := DX.itemsO p2 p) hn
    obtain ⟨x1, r2⟩ := ext_put as ((ks.zip (vs.map (·.2))).map txK) _ nd hfa r0
    have hl3 : LiI.putT (upd H1 p2 (DX.itemsO p2 p)) as ((ks.zip (vs.map (·.2))).map txK) l2 = none := by rw [LiI.putT_off as _ _ hla]; exact hl
    have x2 := Ext.laid (K := X.kw) (ρ := ρ1) (o := .lst (((as.zip ks).mergeSort fun x y => leS x.2 y.2).map fun z => V.ref z.1)) hl3
    have r3 := r2.laid (o := .lst (((as.zip ks).mergeSort fun x y => leS x.2 y.2).map fun z => V.ref z.1)) hl3
    have ee := (x0.trans x1).trans x2
    -- the triples
    have e5 : as.zip ks = (as.zip (ks.zip (kvs.map (·.2)))).map fun z => (z.1, z.2.1) := by
      have lk2 : ks.length = (kvs.map (·.2)).length := by rw [lds, List.length_map]; exact lks
      have : ∀ (as : List Addr) (ks : List Str) (ds : List D), ks.length = ds.length → as.zip ks = (as.zip (ks.zip ds)).map fun z => (z.1, z.2.1) := by
        intro as
        induction as with
        | nil => intros; rfl
        | cons a as ih =>
          intro ks ds h
          cases ks with
          | nil => rfl
          | cons x ks =>
            cases ds with
            | nil => cases h
            | cons d ds => rw [List.zip_cons_cons, List.zip_cons_cons, List.zip_cons_cons, List.map_cons, ih ks ds (Nat.succ.inj h)]
      exact this as ks _ lk2
    have lk2 : ks.length = (kvs.map (·.2)).length := by rw [lds, List.length_map]; exact lks
    have e6 : ks.zip (kvs.map (·.2)) = (as.zip (ks.zip (kvs.map (·.2)))).map (·.2) := (zipS _ _ (by rw [List.length_zip]; omega)).symm
    have hD : ((ks.zip (kvs.map (·.2))).mergeSort fun a b => leS a.1 b.1).map (fun e => D.tup [.str e.1, e.2]) = ((as.zip (ks.zip (kvs.map (·.2)))).mergeSort fun a b => leS a.2.1 b.2.1).map fun z => D.tup [.str z.2.1, z.2.2] := by
      conv => lhs; rw [e6]
      rw [← sorted_map (r := fun (a b : Addr × Str × D) => leS a.2.1 b.2.1) (f := fun z : Addr × Str × D => z.2) (fun a b => rfl), List.map_map]
      rfl
    have hV : ((as.zip ks).mergeSort fun x y => leS x.2 y.2).map (fun z => V.ref z.1) = ((as.zip (ks.zip (kvs.map (·.2)))).mergeSort fun a b => leS a.2.1 b.2.1).map fun z => V.ref z.1 := by
      rw [e5, ← sorted_map (r := fun (a b : Addr × Str × D) => leS a.2.1 b.2.1) (f := fun z : Addr × Str × D => (z.1, z.2.1)) (fun a b => rfl), List.map_map]
      rfl
    rw [hD] at hq
    rw [hV] at ee r3 ⊢
    refine hq ρ1 _ (.ref l2) ee r3 ⟨l2, _, rfl, upd_same, ?_, r0.fresh hl, x0.bk l2 hl⟩
    refine rvs_map fun z hz => ?_
    have hz := (List.mergeSort_perm _ _).mem_iff.mp hz
    obtain ⟨j, hj⟩ := List.mem_iff_getElem?.mp hz
    rw [List.getElem?_zip_eq_some] at hj
    obtain ⟨j1, j2⟩ := hj
    rw [List.getElem?_zip_eq_some] at j2
    obtain ⟨j2, j3⟩ := j2
    obtain ⟨u, u1, u2⟩ := q2.get j3
    have at3 := LiI.putT_at as ((ks.zip (vs.map (·.2))).map txK) (upd H1 p2 (DX.itemsO p2 p)) (by rw [List.length_map, lz]; exact la) nd
    obtain ⟨q, qe, qa⟩ := LiI.paired_get at3 j1
    have hq2 : ((ks.zip (vs.map (·.2))).map txK)[j]? = some (Sum.inr z.2.1, u) := by
      rw [List.getElem?_map]
      have : (ks.zip (vs.map (·.2)))[j]? = some (z.2.1, u) := List.getElem?_zip_eq_some.mpr ⟨j2, u1⟩
      rw [this]; rfl
    rw [hq2] at qe
    cases qe
    have hzl : z.1 ≠ l2 := fun e => hla (by rw [← e]; exact List.mem_of_getElem? j1)
    refine rv_tup.mpr ⟨z.1, [.str z.2.1, u], rfl, SqT.of (by rw [upd_ne hzl]; exact qa), .cons_ (rv_str.mpr rfl) (.cons_ (RV.mono ee _ _ u2) .nil_)⟩
  · cases h
end
end Nv

set_option Elab.async false
set_option linter.all false
set_option maxRecDepth 100000
set_option autoImplicit false
set_option maxHeartbeats 4000000
/-! NvDd: {k: a, k': b}. The new dict stands in the heap while the values are made: it is hidden there. -/
namespace Nv
open PySem PySem.Spec PyProof.Rows L2
def hid (H : Hp) (p : Addr) : Hp := fun a => if a = p then none else H a
theorem hid_at {H : Hp} {p : Addr} : hid H p p = none := if_pos rfl
theorem hid_ne {H : Hp} {p a : Addr} (h : a ≠ p) : hid H p a = H a := if_neg h
theorem hid_upd {H : Hp} {p : Addr} {o : HO} (h : H p = some o) : upd (hid H p) p o = H := by
  funext a
  by_cases e : a = p
  · rw [e, upd_same, h]
  · rw [upd_ne e, hid_ne e]
section
variable {K : Kw} {ρ ρ' : List Addr} {H H' : Hp} {p : Addr}
theorem sqt_hid {a : Addr} {xs : List V} (hp : Chg H p) (h : SqT K H a xs) : SqT K (hid H p) a xs := by
  rcases h with (h | ⟨u, h⟩) | h
  · exact .inl (.inl (by rw [hid_ne (fun z => hp.1 xs (by rw [← z]; exact h))]; exact h))
  · exact .inl (.inr ⟨u, by rw [hid_ne (fun z => hp.2 u (.tup xs) (by rw [← z]; exact h))]; exact h⟩)
  · exact .inr h
theorem fz_hid (hp : Chg H p) : ∀ (a : Addr) ob u, H a = some (.frz ob u) → hid H p a = some (.frz ob u) := fun a ob u h => by
  rw [hid_ne (fun z => hp.2 ob u (by rw [← z]; exact h))]; exact h
theorem rv_hid (hp : Chg H p) (d : D) (v : V) (h : RV K ρ H d v) : RV K ρ (hid H p) d v := RV.mono0 (fun _ _ h => h) (fun _ _ => sqt_hid hp) (fz_hid hp) d v h
theorem rvs_hid (hp : Chg H p) (d : List D) (v : List V) (h : RVs K ρ H d v) : RVs K ρ (hid H p) d v := RVs.mono0 (fun _ _ h => h) (fun _ _ => sqt_hid hp) (fz_hid hp) d v h
theorem RS.hid {s : Sto} (hp : Chg H p) (hr : p ∉ ρ) (h : RS K ρ H s) : RS K ρ (Nv.hid H p) s := ⟨h.len, h.nd, fun i o a h1 h2 => by
  have hne : a ≠ p := fun e => hr (by rw [← e]; exact List.mem_of_getElem? h2)
  have q := h.ob i o a h1 h2
  cases o with
  | lst xs => obtain ⟨vs, e1, e2⟩ := q; exact ⟨vs, by rw [hid_ne hne]; exact e1, rvs_hid hp _ _ e2⟩
  | dct kvs =>
    rcases q with ⟨vs, e1, e2, e3⟩ | ⟨xs, vs, e⟩ | ⟨xs, vs, e⟩
    · exact .inl ⟨vs, by rw [hid_ne hne]; exact e1, e2, rvs_hid hp _ _ e3⟩
    · exact .inr (.inl ⟨xs, vs, e.imp (K' := K) (by rw [hid_ne hne]; exact e.at_) fun _ _ q => rvs_hid hp _ _ q⟩)
    · exact .inr (.inr ⟨xs, vs, e.imp (K' := K) (by rw [hid_ne hne]; exact e.at_) fun _ _ q => rvs_hid hp _ _ q⟩)⟩
theorem Ext.hid {o : HO} (hn : H p = none) (hr : p ∉ ρ) (ho : Chg (upd H p o) p) (e : Ext K ρ (upd H p o) ρ' H') (hp : Chg H' p) : Ext K ρ H ρ' (Nv.hid H' p) where
  pre := e.pre
  tup := fun a xs h => sqt_hid hp (e.tup a xs (sqt_new hn h))
  fz := fun a ob u h => fz_hid hp a ob u (e.fz a ob u (fz_new hn a ob u h))
  oth := fun a u h q => by
    have hne : a ≠ p := fun z => by rw [z, hn] at h; cases h
    rw [hid_ne hne]
    exact e.oth a u (by rw [upd_ne hne]; exact h) q
  new := fun a h => by
    rcases e.new a h with q | q
    · exact .inl q
    · refine .inr ?_
      by_cases z : a = p
      · rw [z]; exact hn
      · rw [upd_ne z] at q; exact q
  bk := fun a h => by
    by_cases z : a = p
    · rw [z]; exact hn
    · rw [hid_ne z] at h
      have := e.bk a h
      rw [upd_ne z] at this
      exact this
end
section
variable {K : Kw} {W W' : Wx} {γ δ : Type} {R2 : Hp → List Addr → Hp → γ → δ → Prop} {ρ : List Addr} {H : Hp}
/-- a piece is run while the new dict stands there, empty -/
theorem post_hide {Q : δ → Hp → Prop} {Q1 : V → Hp → Prop} {r : Res D} {f : D → Sto → Res γ} {p : Addr} (b : Bk K R2) (hn : H p = none) (hr : p ∉ ρ) (h : Post K W R2 ρ H Q ((noX r).bind f))
    (k : ∀ a s1 ρ1 H1 v, H1 p = none → p ∉ ρ1 → Ext K ρ H ρ1 H1 → RS K ρ1 H1 s1 → RV K ρ1 H1 a v → Post K W R2 ρ1 H1 Q (f a s1) → Q1 v (upd H1 p (.dK []))) : Post K W' (rRV K) ρ (upd H p (.dK [])) Q1 r := by
  cases r with
  | ok a s =>
    intro ρ' H' v e rs rr
    have hc0 : Chg (upd H p (.dK [])) p := Chg.dK upd_same
    have hp' : H' p = some (.dK []) := e.oth p _ upd_same hr
    have hc : Chg H' p := Chg.dK hp'
    have hr' : p ∉ ρ' := fun m => by
      rcases e.new p m with q | q
      · exact hr q
      · rw [upd_same] at q; cases q
    have e2 := e.hid hn hr hc0 hc
    have q := k a s ρ' (hid H' p) v hid_at hr' e2 (rs.hid hc hr') (rv_hid hc a v rr) (Post.mono b e2 h)
    rw [hid_upd hp'] at q
    exact q
  | ex x s => exact h.elim
  | no => exact h.elim
end
section
variable {T : Tab} {cf : Nat → List D → Sto → Res RD} {k : Nat} {N : List Str}
theorem s_dd2 {k1 k2 : Str} {a b : Ex} (ha : SE T cf k N a) (hb : SE T cf k N b) : SE T cf k N (.dd2 k1 a k2 b) := by
  intro X sc W e g h
  simp only [ck] at h
  split at h
  · rename_i y1 j1 p1 y2 j2 p2 v1 v2 pos
    obtain ⟨h, h4⟩ := and2 h
    obtain ⟨h, h3⟩ := and2 h
    obtain ⟨h1, h2⟩ := and2 h
    cases of_decide_eq_true h1
    cases of_decide_eq_true h2
    have sa := ha X sc W v1 g h3
    have sb := hb X sc W v2 g h4
    refine snd_mkR rfl rfl (pe_wk (pe_disp (pps_cons pe_str sa.v (pps_cons pe_str sb.v pps_nil)) rfl rfl (by simp) (by simp)) fun σ H Q ⟨ρ, l, s, rs, rl, hp⟩ p hn => ?_)
    have hr := rs.fresh hn
    have x0 := Ext.laid (K := X.kw) (ρ := ρ) (o := .dK []) hn
    show tVv X.kw (wS X.mg W) (den cf T.gc a).v σ (upd H p (.dK [])) _
    refine ⟨ρ, l, s, rs.laid hn, rl.mono x0, post_hide bkRR hn hr hp fun d1 s1 ρ1 H1 u1 n1 r1 e1 rs1 rv1 h1 => ?_⟩
    show tVv X.kw (wS X.mg W) (den cf T.gc b).v σ (upd H1 p (.dK [])) _
    have x1 := Ext.laid (K := X.kw) (ρ := ρ1) (o := .dK []) n1
    refine ⟨ρ1, l, s1, rs1.laid n1, (rl.mono e1).mono x1, post_hide bkRR n1 r1 h1 fun d2 s2 ρ2 H2 u2 n2 r2 e2 rs2 rv2 h2 => ?_⟩
    show upd H2 p (.dK []) p = some (.dK []) ∧ _
    split at h2
    · exact h2.elim
    · rename_i hne
      refine ⟨upd_same, [(Sum.inr k1, u1), (Sum.inr k2, u2)], rfl, by simp, ?_⟩
      have hm : mergeK [] [((Sum.inr k1 : Key), u1), (Sum.inr k2, u2)] = [((Sum.inr k1 : Key), u1), (Sum.inr k2, u2)] := by
        have hk : ¬ ((Sum.inr k1 : Key) = Sum.inr k2) := fun z => hne (by injection z)
        simp [mergeK, putK, hk, hne]
      rw [hm]
      have hu : upd (upd H2 p (.dK [])) p (.dK [((Sum.inr k1 : Key), u1), (Sum.inr k2, u2)]) = upd H2 p (.dK [((Sum.inr k1 : Key), u1), (Sum.inr k2, u2)]) := by
        funext c
        by_cases z : c = p
        · rw [z, upd_same, upd_same]
        · rw [upd_ne z, upd_ne z, upd_ne z]
      rw [hu]
      have x2 := Ext.laid (K := X.kw) (ρ := ρ2) (o := .dK [((Sum.inr k1 : Key), u1), (Sum.inr k2, u2)]) n2
      exact h2 ρ2 _ (.ref p) x2 (rs2.laid n2) ⟨p, rfl, .inl ⟨_, upd_same, rfl, .cons_ (RV.mono (e2.trans x2) _ _ rv1) (.cons_ (RV.mono x2 _ _ rv2) .nil_)⟩, r2, n2⟩
  · cases h
end
end Nv

set_option Elab.async false
set_option linter.all false
set_option maxRecDepth 100000
set_option autoImplicit false
set_option maxHeartbeats 4000000
/-! NvCp: comprehensions; all expressions. -/
namespace Nv
open PySem PySem.Spec PyProof.Rows L2
section
variable {T : Tab} {cf : Nat → List D → Sto → Res RD} {k : Nat} {N : List Str}
theorem wipe_in {σ : L2.St} {i : Nat} : ∀ {vs : List Nat}, i ∈ vs → i < σ.length → (wipe σ vs)[i]? = some none
  | v :: vs, h, hl => by
    unfold wipe
    by_cases e : v = i
    · subst e
      rw [List.getElem?_set_self (by rw [wipe_length]; exact hl)]
    · rw [List.getElem?_set_ne e]
      rcases List.mem_cons.mp h with h | h
      · exact absurd h.symm e
      · exact wipe_in h hl
theorem wipe_eq {σ τ : L2.St} {vs : List Nat} (hl : σ.length = (wipe τ vs).length) (h : ∀ j, j ∉ vs → σ[j]? = (wipe τ vs)[j]?) : wipe σ vs = wipe τ vs := by
  have hl2 : σ.length = τ.length := by rw [hl, wipe_length]
  refine List.ext_getElem? fun j => ?_
  by_cases hj : j ∈ vs
  · by_cases hlt : j < τ.length
    · rw [wipe_in hj hlt, wipe_in hj (by rw [hl2]; exact hlt)]
    · rw [List.getElem?_eq_none (by rw [wipe_length, hl2]; omega), List.getElem?_eq_none (by rw [wipe_length]; omega)]
  · rw [wipe_out hj]; exact h j hj
theorem wipeL_length (l : Loc) : ∀ vs : List Nat, (wipeL l vs).length = l.length
  | [] => rfl
  | v :: vs => by unfold wipeL; rw [List.length_set, wipeL_length l vs]
theorem wipeL_some {l : Loc} {i : Nat} {x : D} : ∀ {vs : List Nat}, (wipeL l vs)[i]? = some (some x) → l[i]? = some (some x) ∧ i ∉ vs
  | [], h => ⟨h, by simp⟩
  | v :: vs, h => by
    unfold wipeL at h
    by_cases hi : v = i
    · subst hi
      by_cases hv : v < (wipeL l vs).length
      · rw [List.getElem?_set_self hv] at h; cases h
      · rw [List.getElem?_eq_none (by simpa using hv)] at h; cases h
    · rw [List.getElem?_set_ne hi] at h
      obtain ⟨h1, h2⟩ := wipeL_some h
      exact ⟨h1, by simp only [List.mem_cons, not_or]; exact ⟨fun e => hi e.symm, h2⟩⟩
theorem RL.wipe {K : Kw} {ρ : List Addr} {H : Hp} {σ : L2.St} {l : Loc} (h : RL K ρ H σ l) (vs : List Nat) : RL K ρ H (L2.wipe σ vs) (wipeL l vs) :=
  ⟨by rw [wipe_length, wipeL_length]; exact h.len, fun i d q => by
    obtain ⟨h1, h2⟩ := wipeL_some q
    obtain ⟨v, h3, h4⟩ := h.at_ i d h1
    exact ⟨v, by rw [wipe_out h2]; exact h3, h4⟩⟩
theorem pts_wk {X : Cx} {es : List Expr} {t t' : TT} (h : PTs X es t) (w : ∀ σ H Q, t' σ H Q → t σ H Q) : PTs X es t' := ⟨fun pins s σ H Q I q => h.run pins s σ H Q I (w σ H Q q)⟩
theorem stores_blk {X : Cx} {s : Shared} {H : Hp} {scope : Scope} {cl : List (Str × Addr)} {C : Addr} {fp : List Addr} : Stores scope (X.blk s H scope (compEnvC scope cl C X.env) fp) := by
  intro x hx
  have e : (X.blk s H scope (compEnvC scope cl C X.env) fp).env.scope = relS scope X.env.scope := rfl
  unfold locB at hx
  split at hx
  · rename_i q
    have q2 := lookup_relS_keep (sc := X.env.scope) (names := scope.names) (x := x) (k := .local) (by decide) q
    exact ⟨.inl (by rw [e]; exact q2), .inr (by rw [e]; exact q2)⟩
  · rename_i q
    have q2 := lookup_relS_keep (sc := X.env.scope) (names := scope.names) (x := x) (k := .cell) (by decide) q
    refine ⟨.inr (by rw [e]; exact q2), .inl ?_⟩
    show (scope.names.lookup x == some .cell) = true
    rw [q]
    rfl
  · cases hx
theorem post_ite2 {α β γ : Type} {K : Kw} {W : Wx} {R : Hp → List Addr → Hp → γ → β → Prop} {ρ : List Addr} {H : Hp} {Q : β → Hp → Prop} {c : Prop} {inst : Decidable c} {r : Res α} {f : α → Sto → Res γ} (h : Post K W R ρ H Q ((if c then r else .no).bind f)) : c ∧ Post K W R ρ H Q (r.bind f) := by
  by_cases hc : c
  · rw [if_pos hc] at h; exact ⟨hc, h⟩
  · rw [if_neg hc] at h; exact h.elim
theorem bind_assoc {α β γ : Type} (r : Res α) (f : α → Sto → Res β) (g : β → Sto → Res γ) : (r.bind f).bind g = r.bind fun a s => (f a s).bind g := by cases r <;> rfl
theorem Post.bindN {α β γ δ : Type} {K : Kw} {W W' : Wx} {R : Hp → List Addr → Hp → α → β → Prop} {R2 : Hp → List Addr → Hp → γ → δ → Prop} {ρ ρ0 : List Addr} {H H0 : Hp} {Q : δ → Hp → Prop} {Q1 : β → Hp → Prop} {r : Res α} {f : α → Sto → Res γ} (h : Post K W R2 ρ0 H0 Q ((noX r).bind f))
    (k : ∀ a s1 ρ1 H1 v, Ext K ρ H ρ1 H1 → RS K ρ1 H1 s1 → R H ρ1 H1 a v → Post K W R2 ρ0 H0 Q (f a s1) → Q1 v H1) : Post K W' R ρ H Q1 r := by
  cases r with
  | ok a s => exact fun ρ' H' v e rs rr => k a s ρ' H' v e rs rr h
  | ex x s => exact h.elim
  | no => exact h.elim
/-- the state ahead of a turn -/
def LcInv (K : Kw) (W : Wx) (Q : VK) (tg : Tg) (its : Nv.Its) (c : M Bool) (e : M D) (own : List Nat) (σ : L2.St) (l : Loc) (ρ1 : List Addr) (H1 : Hp) (Dd : Addr) (i m : Nat) (H' : Hp) : Prop :=
  ∃ ρ' s' acc vs, Ext K ρ1 H1 ρ' H' ∧ RS K ρ' H' s' ∧ RL K ρ' H' (L2.wipe σ own) (wipeL l own) ∧ H' Dd = some (.lst vs) ∧ RVs K ρ' H' acc vs ∧ Dd ∉ ρ' ∧ i + m = its.ds.length ∧
    Post K W (rRR K) ρ1 H1 Q ((cpLoop tg its.src c e (wipeL l own) (its.ds.drop i) acc s').bind fun ys s2 => .ok (.l ys) s2)
theorem lc_turns {K : Kw} {mg : Str → Option Value} {Wo : Wx} {Q : VK} {tg : Tg} {its : Nv.Its} {J : It} {c : M Bool} {e : M D} {own : List Nat} {σ : L2.St} {l : Loc} {ρ1 : List Addr} {H1 : Hp} {s1 : Sto} (hsl : ∀ j, j ∈ tg.slots → j ∈ own)
    (rs : RS K ρ1 H1 s1) (rl : RL K ρ1 H1 σ l) (ri : ItOk K ρ1 H1 its J) (hp : Post K Wo (rRR K) ρ1 H1 Q ((cpLoop tg its.src c e (wipeL l own) its.ds [] s1).bind fun ys s2 => .ok (.l ys) s2)) (Dd : Addr) (hD : H1 Dd = none) :
    ∃ W : Nat → Nat → Hp → Prop, (∃ m, W 0 m (upd H1 Dd (.lst []))) ∧ ∀ i m H, W i m H →
      (J.stop i H ∧ Q (.ref Dd) H) ∨ (J.go i H ∧ ∃ Nx : Hp → Prop, (∀ H', Nx H' → ∃ m', m' < m ∧ W (i + 1) m' H') ∧ ∀ x H', J.yld i H x H' → tTg K tg x (L2.wipe σ own) H' fun σ2 H2 => L2.wipe σ2 own = L2.wipe σ own ∧ tBb K (wS mg WF) c σ2 H2 fun b H3 =>
        if b = true then tVv K (wS mg WF) e σ2 H3 fun y H4 => ∃ acc, H4 Dd = some (.lst acc) ∧ acc.length < sizeLine ∧ Nx (upd H4 Dd (.lst (acc ++ [y]))) else Nx H3) := by
  refine ⟨LcInv K Wo Q tg its c e own σ l ρ1 H1 Dd, ⟨its.ds.length, ?_⟩, ?_⟩
  · exact ⟨ρ1, s1, [], [], Ext.laid hD, rs.laid hD, (rl.mono (Ext.laid hD)).wipe own, upd_same, .nil_, rs.fresh hD, by omega, hp⟩
  · rintro i m H ⟨ρ', s', acc, vs, ex, rs', rl', hd, rv, hn, him, hq⟩
    by_cases hlt : i < its.ds.length
    · right
      have hdr : its.ds.drop i = its.ds[i] :: its.ds.drop (i + 1) := List.drop_eq_getElem_cons hlt
      rw [hdr] at hq
      unfold cpLoop at hq
      obtain ⟨so, hq⟩ := post_ite2 hq
      obtain ⟨t1, _⟩ := ri ρ' H s' ex rs' so i
      obtain ⟨go, yl⟩ := t1 its.ds[i] (List.getElem?_eq_getElem hlt)
      refine ⟨go, LcInv K Wo Q tg its c e own σ l ρ1 H1 Dd (i + 1) (m - 1), fun H' w => ⟨m - 1, by omega, w⟩, fun x H2 hy => ?_⟩
      obtain ⟨ex2, rs2, rx⟩ := yl x H2 hy
      cases hb : bindT tg its.ds[i] (wipeL l own) with
      | none => rw [hb] at hq; exact hq.elim
      | some l1 =>
        rw [hb] at hq
        simp only at hq
        rw [bind_assoc] at hq
        refine ⟨ρ', wipeL l own, s', _, rs2, rl'.mono ex2, .inl rx, l1, hb, fun σ2 rl2 hk hlen => ⟨wipe_eq hlen fun j hj => hk j fun z => hj (hsl j z), ?_⟩⟩
        refine ⟨ρ', l1, s', rs2, rl2, Post.bindN hq fun t s3 ρ3 H3 t' ex3 rs3 rt hq3 => ?_⟩
        cases rt
        have d3 : H3 Dd = some (.lst vs) := ex3.oth _ _ (ex2.oth _ _ hd hn) hn
        have n3 : Dd ∉ ρ3 := fun z => by
          rcases (ex2.trans ex3).new _ z with z | z
          · exact hn z
          · rw [hd] at z; cases z
        have e3 := (ex.trans ex2).trans ex3
        cases t with
        | false =>
          refine iteF ⟨ρ3, s3, acc, vs, e3, rs3, (rl'.mono ex2).mono ex3, d3, RVs.mono (ex2.trans ex3) _ _ rv, n3, by omega, ?_⟩
          rw [if_neg Bool.false_ne_true] at hq3
          exact hq3
        | true =>
          rw [if_pos rfl, bind_assoc] at hq3
          refine iteT ⟨ρ3, l1, s3, rs3, rl2.mono ex3, Post.bindN hq3 fun y s4 ρ4 H4 yv ex4 rs4 ry hq4 => ?_⟩
          obtain ⟨hz, hq4⟩ := post_ite2 hq4
          have d4 : H4 Dd = some (.lst vs) := ex4.oth _ _ d3 n3
          have n4 : Dd ∉ ρ4 := fun z => by
            rcases ex4.new _ z with z | z
            · exact n3 z
            · rw [d3] at z; cases z
          have e4 := e3.trans ex4
          have rv4 := RVs.mono ((ex2.trans ex3).trans ex4) _ _ rv
          refine ⟨vs, d4, by rw [rv.length]; exact hz, ρ4, s4, acc ++ [y], vs ++ [yv], e4.poke hD d4, rs4.poke d4 n4, RL.poke d4 (((rl'.mono ex2).mono ex3).mono ex4), upd_same, (rv4.append (.one ry)).poke d4, n4, by omega, hq4⟩
    · left
      have hi : i = its.ds.length := by omega
      have hdr : its.ds.drop i = [] := List.drop_eq_nil_of_le (by omega)
      rw [hdr] at hq
      unfold cpLoop at hq
      obtain ⟨so, hq⟩ := post_ite2 hq
      obtain ⟨_, t2⟩ := ri ρ' H s' ex rs' so i
      exact ⟨t2 hi.symm, hq ρ' H (.ref Dd) ex rs' ⟨Dd, vs, rfl, hd, rv, hn, hD⟩⟩
theorem isNil_eq {t : Ex} (h : t.isNil = true) : t = .nil := by cases t <;> first | rfl | cases h
/-- the parts of a comprehension -/
theorem cp_parts {elt it c : Ex} {tg : Tg} {own : List Nat} (he : SE T cf k N elt) (hi : SE T cf k N it) (hc : SE T cf k N c) {X : Cx} {sc : Scope} {W : WX} {e : Expr} (g : Good T cf k N sc X W) (h : (ck T N (.cp elt tg it c own)).e sc e = true) :
    ∃ x t i ifs scope p, e = .ListComp x [⟨t, i, ifs, 0⟩] scope p ∧ okE i = true ∧ PI X t i (tIi X.kw (wS X.mg W) (den cf T.gc it).i) ∧ BlkOk X.N X.env.scope scope (ownOf N own) ∧ (ownOf N own).map (·.2) = own ∧ (∀ j, j ∈ tg.slots → j ∈ own) ∧
      (∀ (s : Shared) (H : Hp) (C : Addr) (cl : List (Str × Addr)) (fp : List Addr), PG (X.blk s H scope (compEnvC scope cl C X.env) fp) t (tTg X.kw tg)) ∧
      (∀ (s : Shared) (H : Hp) (C : Addr) (cl : List (Str × Addr)) (fp : List Addr), PTs (X.blk s H scope (compEnvC scope cl C X.env) fp) ifs (tBb X.kw (wS X.mg WF) (den cf T.gc c).b)) ∧
      ∀ (s : Shared) (H : Hp) (C : Addr) (cl : List (Str × Addr)) (fp : List Addr), PE (X.blk s H scope (compEnvC scope cl C X.env) fp) x (tVv X.kw (wS X.mg WF) (den cf T.gc elt).v) := by
  simp only [ck] at h
  split at h
  · rename_i x t i ifs scope p
    obtain ⟨h, h7⟩ := and2 h
    obtain ⟨h, h6⟩ := and2 h
    obtain ⟨h, h5⟩ := and2 h
    obtain ⟨h, h4⟩ := and2 h
    obtain ⟨h, h3⟩ := and2 h
    obtain ⟨h, h2⟩ := and2 h
    obtain ⟨h1, htg⟩ := and2 h
    have si := hi X sc W i g h1
    refine ⟨x, t, i, ifs, scope, p, rfl, si.ok, si.i t htg, by rw [g.nm, g.sc]; exact blkOk_by h2, of_decide_eq_true h3, fun j hj => ?_, fun s H C cl fp => ?_, fun s H C cl fp => ?_, fun s H C cl fp => ?_⟩
    · have := List.all_eq_true.mp h5 j hj
      simpa using this
    · exact (pg_any (X := X.blk s H scope (compEnvC scope cl C X.env) fp) (N := N) (scw := scope) g.nm g.nd g.calm stores_blk tg).1 t h4
    · split at h6
      · cases isNil_eq h6
        exact pts_wk pts_nil fun σ H Q ⟨ρ, l, s, rs, rl, hp⟩ => hp ρ H true .refl rs rfl
      · exact pts_one (hc _ _ _ _ (g.blk s H scope cl C fp) (and2 h6).2).b
      · cases h6
    · exact (he _ _ _ _ (g.blk s H scope cl C fp) h7).v
  · cases h
theorem s_cp {elt it c : Ex} {tg : Tg} {own : List Nat} (he : SE T cf k N elt) (hi : SE T cf k N it) (hc : SE T cf k N c) : SE T cf k N (.cp elt tg it c own) := by
  intro X sc W e g h
  obtain ⟨x, t, i, ifs, scope, p, rfl, oki, pi, blk, hown, hsl, hg, ht, hx⟩ := cp_parts he hi hc g h
  have pe := pe_lc (pos := p) g.calm (by rw [g.nm]; exact g.nd) pi blk hg ht hx (ok_fold oki X.env)
  rw [hown] at pe
  refine snd_mkR rfl rfl (pe_wk pe fun σ H Q ⟨ρ, l, s, rs, rl, hp⟩ => ?_)
  exact ⟨ρ, l, s, rs, rl, Post.bind bkRR hp fun its s1 ρ1 H1 J e1 rs1 ri h1 => fun Dd hD => lc_turns hsl rs1 (rl.mono e1) ri h1 Dd hD⟩
theorem ck_lc0 {t : Ex} {sc : Scope} {a : Expr} {b : List Comprehension} {c : Scope} {d : Pos} (h0 : t.isFrz = false) (h : (ck T N t).e sc (.ListComp a b c d) = true) : ∃ elt tg it c own, t = .cp elt tg it c own := by
  cases t <;> first | exact ⟨_, _, _, _, _, rfl⟩ | exact Bool.noConfusion (show false = true from h) | exact Bool.noConfusion (show true = false from h0)
theorem ck_lc {t : Ex} {sc : Scope} {a : Expr} {b : List Comprehension} {c : Scope} {d : Pos} (h : (ck T N t).e sc (.ListComp a b c d) = true) : (∃ elt tg it c own, t = .cp elt tg it c own) ∨ ∃ elt tg it cc own, t = .frz (.cp elt tg it cc own) ∧ (ck T N (.cp elt tg it cc own)).e sc (.ListComp a b c d) = true := by
  cases t with
  | frz u =>
    simp only [ck] at h
    obtain ⟨h, h2⟩ := and2 h
    obtain ⟨_, h1⟩ := and2 h
    obtain ⟨elt, tg, it, cc, own, rfl⟩ := ck_lc0 (by simpa using h1) h2
    exact .inr ⟨elt, tg, it, cc, own, rfl, h2⟩
  | _ => exact .inl (ck_lc0 rfl h)
theorem no_e {t : Ex} (h : ∀ (sc : Scope) (e : Expr), (ck T N t).e sc e = false) : SE T cf k N t := fun X sc W e g q => by rw [h] at q; cases q
theorem no_l {t : Ex} (h : ∀ (sc : Scope) (e : List Expr), (ck T N t).l sc e = false) : SA T cf k N t := fun X sc W e g q => by rw [h] at q; cases q
/-- ALL EXPRESSIONS -/
theorem snd_all (t : Ex) : SE T cf k N t ∧ SA T cf k N t := by
  induction t with
  | nil => exact ⟨no_e fun _ _ => rfl, s_nil⟩
  | cons a b ha hb => exact ⟨no_e fun _ _ => rfl, s_cons ha.1 hb.2⟩
  | var i => exact ⟨s_var i, no_l fun _ _ => rfl⟩
  | int i => exact ⟨s_int i, no_l fun _ _ => rfl⟩
  | str i => exact ⟨s_str i, no_l fun _ _ => rfl⟩
  | bl i => exact ⟨s_bl i, no_l fun _ _ => rfl⟩
  | non => exact ⟨s_non, no_l fun _ _ => rfl⟩
  | gc i => exact ⟨s_gc i, no_l fun _ _ => rfl⟩
  | tup a ha => exact ⟨s_tup ha.2, no_l fun _ _ => rfl⟩
  | lst a ha => exact ⟨s_lst ha.2, no_l fun _ _ => rfl⟩
  | bin o a b ha hb => exact ⟨s_bin ha.1 hb.1, no_l fun _ _ => rfl⟩
  | neg a ha => exact ⟨s_neg ha.1, no_l fun _ _ => rfl⟩
  | nt a ha => exact ⟨s_nt ha.1, no_l fun _ _ => rfl⟩
  | cmp o a b ha hb => exact ⟨s_cmp ha.1 hb.1, no_l fun _ _ => rfl⟩
  | cmp2 o o' a b c ha hb hc => exact ⟨s_cmp2 ha.1 hb.1 hc.1, no_l fun _ _ => rfl⟩
  | kin j kvs a ha => exact ⟨s_kin ha.1, no_l fun _ _ => rfl⟩
  | kix j kvs a ha => exact ⟨s_kix ha.1, no_l fun _ _ => rfl⟩
  | and a b ha hb => exact ⟨s_and ha.1 hb.1, no_l fun _ _ => rfl⟩
  | or a b ha hb => exact ⟨s_or ha.1 hb.1, no_l fun _ _ => rfl⟩
  | ife c a b hc ha hb => exact ⟨s_ife hc.1 ha.1 hb.1, no_l fun _ _ => rfl⟩
  | call f es he => exact ⟨s_call he.2, no_l fun _ _ => rfl⟩
  | b1 f a ha => exact ⟨s_b1 ha.1, no_l fun _ _ => rfl⟩
  | b2 f a b ha hb => exact ⟨s_b2 ha.1 hb.1, no_l fun _ _ => rfl⟩
  | i1 f a ha => exact ⟨s_i1 ha.1, no_l fun _ _ => rfl⟩
  | i2 f a b ha hb => exact ⟨s_i2 ha.1 hb.1, no_l fun _ _ => rfl⟩
  | isin a t ha => exact ⟨s_isin ha.1, no_l fun _ _ => rfl⟩
  | fs f a ha => exact ⟨s_fs ha.1, no_l fun _ _ => rfl⟩
  | si a ha => exact ⟨s_si ha.1, no_l fun _ _ => rfl⟩
  | dd2 k1 a k2 b ha hb => exact ⟨s_dd2 ha.1 hb.1, no_l fun _ _ => rfl⟩
  | rev a ha => exact ⟨s_rev ha.1, no_l fun _ _ => rfl⟩
  | dnew => exact ⟨s_dnew, no_l fun _ _ => rfl⟩
  | dget o a b ho ha hb => exact ⟨s_dget ho.1 ha.1 hb.1, no_l fun _ _ => rfl⟩
  | dget1 o a ho ha => exact ⟨s_dget1 ho.1 ha.1, no_l fun _ _ => rfl⟩
  | any => exact ⟨s_any, no_l fun _ _ => rfl⟩
  | frz a ha => exact ⟨s_frz ha.1, no_l fun _ _ => rfl⟩
  | rng3 a b c ha hb hc => exact ⟨s_rng3 ha.1 hb.1 hc.1, no_l fun _ _ => rfl⟩
  | m0 m o ho => exact ⟨s_m0 ho.1, no_l fun _ _ => rfl⟩
  | m1 m o a ho ha => exact ⟨s_m1 ho.1 ha.1, no_l fun _ _ => rfl⟩
  | ix a b ha hb => exact ⟨s_ix ha.1 hb.1, no_l fun _ _ => rfl⟩
  | sl a lo hi ha hl hh => exact ⟨s_sl ha.1 hl.1 hh.1, no_l fun _ _ => rfl⟩
  | cp elt tg it c own he hi hc => exact ⟨s_cp he.1 hi.1 hc.1, no_l fun _ _ => rfl⟩
end
end Nv

set_option Elab.async false
set_option linter.all false
set_option maxRecDepth 100000
set_option autoImplicit false
set_option maxHeartbeats 4000000
/-! NvHx: except suites. -/
namespace Nv
open PySem PySem.Spec PyProof.Rows L2
/-- a heap that grows by things that the store does not know -/
def Gw (K : Kw) (H H' : Hp) : Prop := (∀ ρ, Ext K ρ H ρ H') ∧ ∀ ρ s, RS K ρ H s → RS K ρ H' s
theorem Gw.refl {K : Kw} {H : Hp} : Gw K H H := ⟨fun _ => .refl, fun _ _ h => h⟩
theorem Gw.trans {K : Kw} {H H1 H2 : Hp} (a : Gw K H H1) (b : Gw K H1 H2) : Gw K H H2 := ⟨fun ρ => (a.1 ρ).trans (b.1 ρ), fun ρ s h => b.2 ρ s (a.2 ρ s h)⟩
theorem Gw.laid {K : Kw} {H : Hp} {p : Addr} {o : HO} (h : H p = none) : Gw K H (upd H p o) := ⟨fun _ => Ext.laid h, fun _ _ r => r.laid h⟩
def Hs.runS : Hs → L2.St → L2.St
  | .nil, σ => σ
  | .set j x r, σ => r.runS (σ.set j (some (.bl x.run)))
  | .ifs x a r, σ => r.runS (if x.run = true then a.runS σ else σ)
section
variable {K : Kw} {ρ : List Addr} {H : Hp}
theorem RL.unk {σ : L2.St} {l : Nv.Loc} {i : Nat} {u : Option V} (h : RL K ρ H σ l) : RL K ρ H (σ.set i u) (l.set i none) :=
  ⟨by rw [List.length_set, List.length_set]; exact h.len, fun j d q => by
    by_cases hj : i = j
    · subst hj
      by_cases hl : i < l.length
      · rw [List.getElem?_set_self hl] at q; cases q
      · rw [List.getElem?_eq_none (by rw [List.length_set]; omega)] at q; cases q
    · rw [List.getElem?_set_ne hj] at q ⊢
      exact h.at_ j d q⟩
theorem RL.runS : ∀ (h : Hs) {σ : L2.St} {l : Nv.Loc}, RL K ρ H σ l → RL K ρ H (h.runS σ) (h.run l)
  | .nil, _, _, r => r
  | .set j x q, _, _, r => RL.runS q (r.set (rv_bl.mpr rfl))
  | .ifs x a q, σ, l, r => by
    unfold Hs.runS Hs.run
    refine RL.runS q ?_
    split
    · exact RL.runS a r
    · exact r
end
section
variable {T : Tab} {cf : Nat → List D → Sto → Res RD} {k : Nat} {N : List Str} {sc : Scope} {X : Cx} {W : WX} {i : Nat} {n : Str} {C a : Addr} {oe : Obj} {pn : List (Addr × Obj)}
def tHx (K : Kw) (a : Addr) (i : Nat) (b : Bool) : TE := fun σ H Q => σ[i]? = some (some (.ref a)) ∧ ∀ H', Gw K H H' → Q (.bl b) H'
def tHt (K : Kw) (a : Addr) (i : Nat) (b : Bool) : TT := fun σ H Q => σ[i]? = some (some (.ref a)) ∧ ∀ H', Gw K H H' → Q b H'
/-- isinstance(e, (c, ..)) -/
def rIsT (K : PySem.W.Frag) (D a : Addr) : List V → Hp → VK → Prop := fun xs H Q => ∃ (tp : Addr) (vs : List V) (b : Bool), xs = [.ref a, .ref tp] ∧ H tp = some (.tup vs) ∧ (∀ us, Vals vs us → PySem.W.kitAny K (.ref D) us = some b) ∧ Q (.bl b) H
theorem call_isT {D : Addr} (C : ExcC X.K D) (hz : Zc (.ref D) none oe) (hf : ∃ vs, oe.data = .fields vs) : CallR (X.suite a ((a, oe) :: pn)) (.builtin "isinstance") (rIsT X.K D a) := by
  intro pins s σ H xs us Q I r h
  obtain ⟨tp, vs, b, rfl, ht, hk, q⟩ := h
  cases r with
  | cons rx rr =>
    cases rr with
    | cons rt rr =>
      cases rr
      cases rx
      cases rt
      obtain ⟨hget, _⟩ := I.pin (a, oe) (List.mem_append.mpr (.inl List.mem_cons_self))
      obtain ⟨ws, hv⟩ := hf
      have J : PySem.W.InstAt s.heap a oe D none := by
        obtain ⟨oc, od, oda, osl⟩ := oe
        obtain ⟨h1, h2⟩ := hz
        dsimp only at h1 h2 hv
        subst h1 h2 hv
        exact ⟨hget, rfl, rfl, trivial⟩
      obtain ⟨its, rv, ⟨o, ho, hc, m, hd⟩, _⟩ := I.tuple (SqT.of ht)
      obtain ⟨oc, od, oda, osl⟩ := o
      cases hc
      cases hd
      exact PySem.W.kia_tup (PySem.W.handS_kitx_exc C.hg C.hk C.hs C.hd C.ha C.hn C.ht C.hm) I.kIn J ho (hk its rv) (fun z => nomatch z) fun tk => ⟨.bl b, H, I.kept (t' := tk) fun _ _ z => z, rfl, q⟩
/-- a class that is named -/
theorem pe_cls {x : Str} {D : Value} {v : V} {p : Pos} (g : Good T cf k N sc X W) (h : glB sc x = true) (r : RelV v D) (hm : X.mg x = some D ∨ (X.mg x = none ∧ bootBuiltins x = some D ∧ x ≠ "__name__")) : PE (X.suite a pn) (.Name x p) (tC v) := by
  obtain ⟨g1, g2, _⟩ := g.gl h
  rcases hm with hm | ⟨hm, hv, hn⟩
  · exact pe_glob (X := X.suite a pn) g1 hm r g2
  · exact pe_bltn (X := X.suite a pn) g1 hm hv r hn g2
theorem pe_e {e : Str} {p : Pos} (g : Good T cf k N sc X W) (h1 : N[i]? = some e) (h2 : visB sc e = true) (h3 : (e == ("__debug__" : Str)) = false) (h4 : (e == ("__classdict__" : Str)) = false) : PE (X.suite a pn) (.Name e p) (tVar i) :=
  pe_var (X := X.suite a pn) (by show X.N[i]? = _; rw [g.nm]; exact h1) (by show Vis X.env.scope e; rw [g.sc]; exact vis_of h2) h3 h4
/-- names of classes, one behind the other -/
theorem pa_names (g : Good T cf k N sc X W) (hC : X.mg n = some (.ref C)) : ∀ {ts : List Str} {ys : List Expr}, namesAre sc ts ys = true → (∀ t ∈ ts, ∃ b, T.isx.contains (n, t, b) = true) →
    ∃ vs : List V, PA (X.suite a pn) ys (fun σ H Q => Q vs H) ∧ (∀ pos, (backTo pos (starEach ys (X.suite a pn).env)).any (·.1) = false) ∧ ys.length = vs.length ∧ ∀ us, Vals vs us → ∀ b, T.isAny n ts = some b → PySem.W.kitAny X.K (.ref C) us = some b
  | [], [], _, _ => ⟨[], pa_wk pa_nil fun σ H Q h => h, fun _ => rfl, rfl, fun us h b e => by cases h; cases e; rfl⟩
  | [], _ :: _, h, _ => by simp [namesAre] at h
  | t :: ts, [], h, _ => by simp [namesAre] at h
  | t :: ts, y :: ys, h, hx => by
    cases y with
    | Name z p =>
      simp only [namesAre] at h
      obtain ⟨h, h3⟩ := and2 h
      obtain ⟨h1, h2⟩ := and2 h
      cases of_decide_eq_true h1
      obtain ⟨b0, hb0⟩ := hx t (.head _)
      obtain ⟨C', D, v, e1, e2, e3, e4, e5⟩ := g.isx n t b0 hb0
      rw [hC] at e1
      cases e1
      obtain ⟨vs, i1, i2, i3, i4⟩ := pa_names g hC h3 fun t ht => hx t (.tail _ ht)
      refine ⟨v :: vs, pa_wk (pa_cons (pe_cls g h2 e2 e4) i1 rfl) fun σ H Q h => h, fun pos => ?_, by simp [i3], fun us hu b hb => ?_⟩
      · show (false || (backTo pos (starEach ys (X.suite a pn).env)).any (·.1)) = false
        rw [i2 pos]; rfl
      · cases hu with
        | cons r rr =>
          rw [e3 _ r]
          unfold PySem.W.kitAny
          rw [e5]
          unfold Tab.isAny at hb
          cases b0 with
          | true =>
            rw [if_pos hb0] at hb
            cases hb
            rfl
          | false =>
            by_cases ht : T.isx.contains (n, t, true) = true
            · obtain ⟨C2, D2, v2, f1, f2, f3, f4, f5⟩ := g.isx n t true ht
              rw [hC] at f1
              cases f1
              have : D2 = D := by
                rcases e4 with e4 | ⟨e4, e4', _⟩ <;> rcases f4 with f4 | ⟨f4, f4', _⟩
                · rw [e4] at f4; cases f4; rfl
                · rw [e4] at f4; cases f4
                · rw [e4] at f4; cases f4
                · rw [e4'] at f4'; cases f4'; rfl
              subst this
              rw [e5] at f5
              cases f5
            · rw [if_neg ht, if_pos hb0] at hb
              exact i4 _ rr b hb
    | _ => simp [namesAre] at h
theorem isAny_all : ∀ {ts : List Str} {b : Bool}, T.isAny n ts = some b → b = false → ∀ t ∈ ts, ∃ b, T.isx.contains (n, t, b) = true
  | [], _, _, _, t, h => by cases h
  | t :: ts, b, h, hb, x, hx => by
    unfold Tab.isAny at h
    split at h
    · cases h; cases hb
    · split at h
      · rename_i h2
        rcases List.mem_cons.mp hx with e | hx
        · rw [e]; exact ⟨false, h2⟩
        · exact isAny_all h hb x hx
      · cases h
theorem is_boot : bootBuiltins "isinstance" = some (.builtin "isinstance") := by decide +kernel
structure HxOk (X : Cx) (a : Addr) (i : Nat) (e : Expr) (b : Bool) : Prop where
  pe : PE X e (tHx X.kw a i b)
  pt : PT X e (tHt X.kw a i b)
theorem hx_call {e : Expr} {b : Bool} (hp : plainE e = true) (h : PE (X.suite a pn) e (tHx X.kw a i b)) : HxOk (X.suite a pn) a i e b :=
  ⟨h, pt_wk (pt_truth h (plain_true hp (X.suite a pn).env)) fun σ H Q ⟨h1, h2⟩ => ⟨h1, fun H' g => ⟨b, (rfl : b = b), h2 H' g⟩⟩⟩
theorem hx_ok (g : Good T cf k N sc X W) (E : ExcF X.K X.mg n C) (hz : Zc (.ref C) none oe) (hf : ∃ vs, oe.data = .fields vs) : ∀ {x : Hx} {e : Expr}, hxck T N sc i n x e = true → HxOk (X.suite a ((a, oe) :: pn)) a i e x.run := by
  intro x
  induction x with
  | bl b =>
    intro e h
    simp only [hxck] at h
    split at h
    · rename_i y p q
      cases of_decide_eq_true h
      exact hx_call rfl (pe_wk pe_bl fun σ H Q ⟨_, h2⟩ => h2 H .refl)
    · cases h
  | isx m ts b =>
    intro e h
    simp only [hxck] at h
    split at h
    · rename_i x p1 e p2 y p
      obtain ⟨h, h8⟩ := and2 h
      obtain ⟨h, h7⟩ := and2 h
      obtain ⟨h, h6⟩ := and2 h
      obtain ⟨h, h5⟩ := and2 h
      obtain ⟨h, h4⟩ := and2 h
      obtain ⟨h, h3⟩ := and2 h
      obtain ⟨h1, h2⟩ := and2 h
      obtain ⟨g1, g2, g3⟩ := g.gl h2
      have hb : bootBuiltins x = some (.builtin "isinstance") := by rw [of_decide_eq_true h1]; exact is_boot
      have pe0 : PE (X.suite a ((a, oe) :: pn)) (.Name e p2) (tVar i) := pe_e g (of_decide_eq_true h4) h5 (by simpa using h6) (by simpa using h7)
      refine hx_call rfl ?_
      split at h8
      · split at h8
        · rename_i ys q1 q2
          obtain ⟨h8, h11⟩ := and2 h8
          obtain ⟨h8, h10⟩ := and2 h8
          obtain ⟨h8, h9⟩ := and2 h8
          have h11 := of_decide_eq_true h11
          have e10 := of_decide_eq_true h10
          obtain ⟨vs, i1, i2, i3, i4⟩ := pa_names (a := a) (pn := (a, oe) :: pn) g E.mg_ h8 (isAny_all e10 (of_decide_eq_true h9))
          refine pe_wk (pe_callB (X := X.suite a ((a, oe) :: pn)) (call_isT E.is_ hz hf) g1 (g.blt x h3) hb (pa_cons pe0 (pa_cons (pe_tup i1) pa_nil rfl) rfl) g3 g2 rfl rfl) fun σ H Q ⟨hs, hq⟩ => ?_
          exact ⟨.ref a, hs, by rw [← i3, sizeLine_eq]; omega, fun tp htp => ⟨tp, vs, b, rfl, upd_same, fun us hu => i4 us hu b e10, hq _ (Gw.laid htp)⟩⟩
        · cases h8
      · split at h8
        · rename_i z q1
          split at h8
          · rename_i t
            obtain ⟨h8, h10⟩ := and2 h8
            obtain ⟨h8, h9⟩ := and2 h8
            cases of_decide_eq_true h8
            obtain ⟨C', D, v, e1, e2, e3, e4, e5⟩ := g.isx n z b h10
            rw [E.mg_] at e1
            cases e1
            refine pe_wk (pe_callB (X := X.suite a ((a, oe) :: pn)) (call_isE E.is_ hz hf) g1 (g.blt x h3) hb (pa_cons pe0 (pa_cons (pe_cls g h9 e2 e4) pa_nil rfl) rfl) g3 g2 rfl rfl) fun σ H Q ⟨hs, hq⟩ => ?_
            exact ⟨.ref a, hs, v, D, b, rfl, e3, e5, hq H .refl⟩
          · cases h8
        · cases h8
    · cases h
  | and x y hx hy =>
    intro e h
    simp only [hxck] at h
    split at h
    · rename_i u v p
      obtain ⟨h1, h2⟩ := and2 h
      have sx := hx h1
      have sy := hy h2
      refine ⟨pe_wk (pe_and sx.pe (pe_one sy.pe)) fun σ H Q ⟨hs, hq⟩ => ?_, (pw_wk (pw_and sx.pt (pw_and1 sy.pt)) (t' := tHt X.kw a i (x.run && y.run)) fun σ H Q ⟨hs, hq⟩ => ?_).pt⟩
      · refine ⟨hs, fun H1 g1 => ⟨x.run, rfl, ?_⟩⟩
        cases hx' : x.run with
        | true => exact iteT ⟨hs, fun H2 g2 => by have := hq H2 (g1.trans g2); rw [show (Hx.and x y).run = y.run by simp [Hx.run, hx']] at this; exact this⟩
        | false => exact iteF (by have := hq H1 g1; rw [show (Hx.and x y).run = false by simp [Hx.run, hx']] at this; exact this)
      · refine ⟨hs, fun H1 g1 => ?_⟩
        cases hx' : x.run with
        | true => exact iteT ⟨hs, fun H2 g2 => by have := hq H2 (g1.trans g2); rw [show (x.run && y.run) = y.run by simp [hx']] at this; exact this⟩
        | false => exact iteF (by have := hq H1 g1; rw [show (x.run && y.run) = false by simp [hx']] at this; exact this)
    · cases h
  | or x y _ _ => intro e h; simp [hxck] at h
  | nt x _ => intro e h; simp [hxck] at h
def tHs (K : Kw) (a : Addr) (i : Nat) (h : Hs) : TS := fun D σ H => σ[i]? = some (some (.ref a)) ∧ ∀ H', Gw K H H' → D.nx (h.runS σ) H'
theorem hs_slot {v : V} : ∀ (h : Hs) {ss : List Stmt} {σ : L2.St}, hck T N sc i n h ss = true → σ[i]? = some (some v) → (h.runS σ)[i]? = some (some v)
  | .nil, _, _, _, e => e
  | .set j x r, ss, σ, h, e => by
    simp only [hck] at h
    split at h
    · obtain ⟨h, h7⟩ := and2 h
      obtain ⟨h, h6⟩ := and2 h
      obtain ⟨h, h5⟩ := and2 h
      obtain ⟨h, h4⟩ := and2 h
      obtain ⟨h, h3⟩ := and2 h
      obtain ⟨h1, h2⟩ := and2 h
      exact hs_slot r h7 (by rw [List.getElem?_set_ne (of_decide_eq_true h2)]; exact e)
    · cases h
  | .ifs x a r, ss, σ, h, e => by
    simp only [hck] at h
    split at h
    · obtain ⟨h, h3⟩ := and2 h
      obtain ⟨h1, h2⟩ := and2 h
      refine hs_slot r h3 ?_
      split
      · exact hs_slot a h2 e
      · exact e
    · cases h
theorem hs_ok (g : Good T cf k N sc X W) (st : Stores sc X) (E : ExcF X.K X.mg n C) (hz : Zc (.ref C) none oe) (hf : ∃ vs, oe.data = .fields vs) : ∀ (h : Hs) (ss : List Stmt), hck T N sc i n h ss = true → PSs (X.suite a ((a, oe) :: pn)) ss (tHs X.kw a i h) := by
  intro h
  induction h with
  | nil =>
    intro ss h
    simp only [hck] at h
    split at h
    · exact ⟨fun pins s σ H D I q => pss_nil.run pins s σ H D I (q.2 H .refl)⟩
    · cases h
  | set j x r ih =>
    intro ss h
    simp only [hck] at h
    split at h
    · rename_i y p1 v p2 ss
      obtain ⟨h, h7⟩ := and2 h
      obtain ⟨h, h6⟩ := and2 h
      obtain ⟨h, h5⟩ := and2 h
      obtain ⟨h, h4⟩ := and2 h
      obtain ⟨h, h3⟩ := and2 h
      obtain ⟨h1, h2⟩ := and2 h
      obtain ⟨l1, l2⟩ := st y h3
      have sx := hx_ok (a := a) (pn := pn) g E hz hf h6
      have hsw : swapsWith v (some (.Name y p1)) p2.line X.env = pure false := ok_swap h4 (by simpa using h5) _ _ _
      have pg : PG (X.suite a ((a, oe) :: pn)) (.Name y p1) (gName j) := pg_name (X := X.suite a ((a, oe) :: pn)) (by show X.N.Nodup; rw [g.nm]; exact g.nd) (by show X.N[j]? = _; rw [g.nm]; exact of_decide_eq_true h1) l1 l2
      refine ⟨fun pins s σ H D I ⟨q1, q2⟩ => (pss_cons (ps_asg sx.pe pg hsw rfl rfl) (ih ss h7)).run pins s σ H D I ?_⟩
      refine ⟨q1, fun H1 g1 => ?_⟩
      show tHs X.kw a i r D (σ.set j (some (.bl x.run))) H1
      exact ⟨by rw [List.getElem?_set_ne (of_decide_eq_true h2)]; exact q1, fun H2 g2 => q2 H2 (g1.trans g2)⟩
    · cases h
  | ifs x b r iha ihr =>
    intro ss h
    simp only [hck] at h
    split at h
    · rename_i c b' p ss
      obtain ⟨h, h3⟩ := and2 h
      obtain ⟨h1, h2⟩ := and2 h
      have sx := hx_ok (a := a) (pn := pn) g E hz hf h1
      refine ⟨fun pins s σ H D I ⟨q1, q2⟩ => (pss_cons (ps_if sx.pt (iha b' h2) pss_nil) (ihr ss h3)).run pins s σ H D I ?_⟩
      refine ⟨q1, fun H1 g1 => ?_⟩
      unfold Hs.runS at q2
      cases hx' : x.run with
      | true =>
        rw [hx', if_pos rfl] at q2
        exact iteT ⟨q1, fun H2 g2 => ⟨hs_slot b h2 q1, fun H3 g3 => q2 H3 ((g1.trans g2).trans g3)⟩⟩
      | false =>
        rw [hx', if_neg Bool.false_ne_true] at q2
        exact iteF ⟨q1, fun H3 g3 => q2 H3 (g1.trans g3)⟩
    · cases h
end
end Nv

set_option Elab.async false
set_option linter.all false
set_option maxRecDepth 100000
set_option autoImplicit false
set_option maxHeartbeats 4000000
/-! NvSt: statements, functions. -/
namespace Nv
open PySem PySem.Spec PyProof.Rows L2
/-- what is wanted behind a statement's run -/
def PostS (K : Kw) (W : Wx) (ρ : List Addr) (H : Hp) (D : Ends) : Res (Fl × Nv.Loc) → Prop
  | .ok (.nx, l) s => ∀ ρ' H' σ', Ext K ρ H ρ' H' → RS K ρ' H' s → RL K ρ' H' σ' l → D.nx σ' H'
  | .ok (.bk, l) s => ∀ ρ' H' σ', Ext K ρ H ρ' H' → RS K ρ' H' s → RL K ρ' H' σ' l → D.bk σ' H'
  | .ok (.ct, l) s => ∀ ρ' H' σ', Ext K ρ H ρ' H' → RS K ρ' H' s → RL K ρ' H' σ' l → D.ct σ' H'
  | .ok (.rt d, _) s => ∀ ρ' H' v, Ext K ρ H ρ' H' → RS K ρ' H' s → RR K H ρ' H' d v → D.rt v H'
  | .ex x s => ∀ ρ' H', Ext K ρ H ρ' H' → RS K ρ' H' s → W ρ' H' x
  | .no => False
def tSs (K : Kw) (W : L2.St → Wx) (m : SM) : TS := fun D σ H => ∃ ρ l s, RS K ρ H s ∧ RL K ρ H σ l ∧ PostS K (W σ) ρ H D (m l s)
section
variable {K : Kw} {W : Wx} {ρ ρ1 : List Addr} {H H1 : Hp} {D : Ends}
theorem PostS.mono (e : Ext K ρ H ρ1 H1) : ∀ {r : Res (Fl × Nv.Loc)}, PostS K W ρ H D r → PostS K W ρ1 H1 D r
  | .ok (.nx, l) s, h => fun ρ' H' σ' e' rs rl => h ρ' H' σ' (e.trans e') rs rl
  | .ok (.bk, l) s, h => fun ρ' H' σ' e' rs rl => h ρ' H' σ' (e.trans e') rs rl
  | .ok (.ct, l) s, h => fun ρ' H' σ' e' rs rl => h ρ' H' σ' (e.trans e') rs rl
  | .ok (.rt d, l) s, h => fun ρ' H' v e' rs rr => h ρ' H' v (e.trans e') rs (bkRR _ _ _ _ _ _ _ _ e rr)
  | .ex x s, h => fun ρ' H' e' rs => h ρ' H' (e.trans e') rs
  | .no, h => h
theorem PostS.bind {α β : Type} {R : Hp → List Addr → Hp → α → β → Prop} {Q1 : β → Hp → Prop} {r : Res α} {f : α → Sto → Res (Fl × Nv.Loc)} (h : PostS K W ρ H D (r.bind f))
    (k : ∀ a s1 ρ1 H1 v, Ext K ρ H ρ1 H1 → RS K ρ1 H1 s1 → R H ρ1 H1 a v → PostS K W ρ1 H1 D (f a s1) → Q1 v H1) : Post K W R ρ H Q1 r := by
  cases r with
  | ok a s => exact fun ρ' H' v e rs rr => k a s ρ' H' v e rs rr (PostS.mono e h)
  | ex x s => exact h
  | no => exact h
theorem alloc_post {Q : VK} {r : Res RD} (hp : Post K W (rRV K) ρ H Q (allocR r)) : Post K W (rRR K) ρ H Q r := by
  cases r with
  | no => exact hp
  | ex x s1 => exact hp
  | ok a s1 =>
    cases a with
    | d x => exact fun ρ1 H1 v e1 rs1 r1 => hp ρ1 H1 v e1 rs1 r1
    | l xs =>
      intro ρ1 H1 v e1 rs1 r1
      obtain ⟨a, vs, rfl, h1, h2, h3, h4⟩ := r1
      refine hp (ρ1 ++ [a]) H1 (.ref a) (e1.up h4) (rs1.up h1 h3 h2) ?_
      show RV _ _ _ _ _
      unfold RV
      exact ⟨a, rfl, by rw [← rs1.len, List.getElem?_append_right (Nat.le_refl _), Nat.sub_self]; rfl⟩
    | m kvs =>
      intro ρ1 H1 v e1 rs1 r1
      obtain ⟨a, rfl, h1, h3, h4⟩ := r1
      refine hp (ρ1 ++ [a]) H1 (.ref a) (e1.up h4) (rs1.upO h1 h3) ?_
      show RV _ _ _ _ _
      unfold RV
      exact ⟨a, rfl, by rw [← rs1.len, List.getElem?_append_right (Nat.le_refl _), Nat.sub_self]; rfl⟩
end
structure GoodS (T : Tab) (cf : Nat → List D → Sto → Res RD) (k : Nat) (N : List Str) (sc : Scope) (X : Cx) (W : WX) : Prop where
  g : Good T cf k N sc X W
  st : Stores sc X
  po : PassesOwn (model X.prog X.w) X.A X.env X.xe
  kind : X.env.scope.kind = .function
  stk : X.stack = X.env :: X.outer
  frm : X.env.frame = some X.env.locals
/-- what is wanted of an exception, wherever the slots stand -/
def WI (W : WX) : Prop := ∀ c d σ σ' H, W c d σ H → W c d σ' H
section
variable {T : Tab} {cf : Nat → List D → Sto → Res RD} {k : Nat} {N : List Str}
def SS (T : Tab) (cf : Nat → List D → Sto → Res RD) (k : Nat) (N : List Str) (t : Sm) : Prop :=
  ∀ (X : Cx) (sc : Scope) (W : WX) (s : Stmt), GoodS T cf k N sc X W → (WI W ∨ t.simple = true) → (ckS T N t).s sc s = true → PS X s (tSs X.kw (wS X.mg W) (sden cf T.gc t))
def SL (T : Tab) (cf : Nat → List D → Sto → Res RD) (k : Nat) (N : List Str) (t : Sm) : Prop :=
  ∀ (X : Cx) (sc : Scope) (W : WX) (ss : List Stmt), GoodS T cf k N sc X W → (WI W ∨ t.simple = true) → (ckS T N t).l sc ss = true → PSs X ss (tSs X.kw (wS X.mg W) (sden cf T.gc t))
theorem ps_wk {X : Cx} {s : Stmt} {t t' : TS} (h : PS X s t) (w : ∀ D σ H, t' D σ H → t D σ H) : PS X s t' := ⟨fun pins s σ H D I q => h.run pins s σ H D I (w D σ H q)⟩
theorem pss_wk {X : Cx} {s : List Stmt} {t t' : TS} (h : PSs X s t) (w : ∀ D σ H, t' D σ H → t D σ H) : PSs X s t' := ⟨fun pins s σ H D I q => h.run pins s σ H D I (w D σ H q)⟩
theorem t_nil : SL T cf k N .nil := by
  intro X sc W ss g hW h
  simp only [ckS] at h
  split at h
  · exact pss_wk pss_nil fun D σ H ⟨ρ, l, s, rs, rl, hp⟩ => hp ρ H σ .refl rs rl
  · cases h
theorem PostS.toW {K : Kw} {W1 W2 : Wx} {ρ : List Addr} {H : Hp} {D : Ends} (h : ∀ ρ H x, W1 ρ H x → W2 ρ H x) : ∀ {r : Res (Fl × Nv.Loc)}, PostS K W1 ρ H D r → PostS K W2 ρ H D r
  | .ok (.nx, l) s, q => q
  | .ok (.bk, l) s, q => q
  | .ok (.ct, l) s, q => q
  | .ok (.rt d, l) s, q => q
  | .ex x s, q => fun ρ' H' e rs => h _ _ _ (q ρ' H' e rs)
  | .no, q => q
theorem wS_indep {mg : Str → Option Value} {W : WX} (h : WI W) {σ σ' : L2.St} : ∀ ρ H x, wS mg W σ ρ H x → wS mg W σ' ρ H x := fun ρ H x ⟨n, C, e1, e2, e3⟩ => ⟨n, C, e1, e2, h _ _ _ _ _ e3⟩
/-- the run of the first statement, the second behind it -/
theorem seq_post {K : Kw} {W : Wx} {ρ : List Addr} {H : Hp} {D : Ends} {u : TS} {r : Res (Fl × Nv.Loc)} {f : Nv.Loc → Sto → Res (Fl × Nv.Loc)} (hu : ∀ ρ1 H1 σ1 l1 s1, RS K ρ1 H1 s1 → RL K ρ1 H1 σ1 l1 → PostS K W ρ1 H1 D (f l1 s1) → u D σ1 H1)
    (h : PostS K W ρ H D (r.bind fun fl s1 => match fl.1 with | .nx => f fl.2 s1 | x => .ok (x, fl.2) s1)) : PostS K W ρ H { D with nx := u D } r := by
  cases r with
  | ok a s =>
    obtain ⟨fl, l⟩ := a
    cases fl with
    | nx => exact fun ρ' H' σ' e rs rl => hu ρ' H' σ' l s rs rl (PostS.mono e h)
    | bk => exact h
    | ct => exact h
    | rt d => exact h
  | ex x s => exact h
  | no => exact h
theorem simple_cons {a b : Sm} (h : (Sm.cons a b).simple = true) : a.simple = true ∧ b = .nil := by
  cases b <;> simp [Sm.simple] at h
  exact ⟨h, rfl⟩
theorem t_cons {a b : Sm} (ha : SS T cf k N a) (hb : SL T cf k N b) : SL T cf k N (.cons a b) := by
  intro X sc W ss g hW h
  simp only [ckS] at h
  split at h
  · rename_i s r
    obtain ⟨h1, h2⟩ := and2 h
    have wa : WI W ∨ a.simple = true := hW.imp id fun q => (simple_cons q).1
    have wb : WI W ∨ b.simple = true := hW.imp id fun q => by rw [(simple_cons q).2]; rfl
    refine pss_wk (pss_cons (ha X sc W s g wa h1) (hb X sc W r g wb h2)) fun D σ H ⟨ρ, l, s, rs, rl, hp⟩ => ?_
    refine ⟨ρ, l, s, rs, rl, seq_post (fun ρ1 H1 σ1 l1 s1 rs1 rl1 q => ⟨ρ1, l1, s1, rs1, rl1, ?_⟩) hp⟩
    rcases hW with w | w
    · exact PostS.toW (wS_indep w) q
    · rw [(simple_cons w).2] at q ⊢
      exact q
  · cases h
theorem t_ex {e : Ex} : SS T cf k N (.ex e) := by
  intro X sc W s g hW h
  simp only [ckS] at h
  split at h
  · rename_i x p
    obtain ⟨h1, h2⟩ := and2 h
    have se := (snd_all e).1 X sc W x g.g h2
    refine ps_wk (ps_expr se.r (ok_swap se.ok (by simpa using h1) _ _ _)) fun D σ H ⟨ρ, l, s, rs, rl, hp⟩ => ?_
    exact ⟨ρ, l, s, rs, rl, PostS.bind hp fun a s1 ρ1 H1 v e1 rs1 r1 h1 => h1 ρ1 H1 σ .refl rs1 (rl.mono e1)⟩
  · cases h
theorem t_ret {e : Ex} : SS T cf k N (.ret e) := by
  intro X sc W s g hW h
  simp only [ckS] at h
  split at h
  · rename_i x p
    have se := (snd_all e).1 X sc W x g.g h
    refine ps_wk (ps_ret se.r) fun D σ H ⟨ρ, l, s, rs, rl, hp⟩ => ⟨ρ, l, s, rs, rl, ?_⟩
    have hp : PostS X.kw _ ρ H D (((den cf T.gc e).r l s).bind fun d s1 => .ok (.rt d, l) s1) := hp
    cases hm : (den cf T.gc e).r l s with
    | no => rw [hm] at hp; exact hp
    | ex x s1 => rw [hm] at hp; exact hp
    | ok x s1 => rw [hm] at hp; exact fun ρ1 H1 v e1 rs1 r1 => hp ρ1 H1 v e1 rs1 r1
  · cases h
theorem t_retN : SS T cf k N .retN := by
  intro X sc W s g hW h
  simp only [ckS] at h
  split at h
  · exact ps_wk ps_retN fun D σ H ⟨ρ, l, s, rs, rl, hp⟩ => hp ρ H .non .refl rs (show RV X.kw ρ H Nv.D.non .non from rv_non.mpr rfl)
  · cases h
theorem t_any : SS T cf k N .any := fun X sc W s g hW h => ⟨fun pins s σ H D I ⟨_, _, _, _, _, hp⟩ => hp.elim⟩
theorem t_brk : SS T cf k N .brk := by
  intro X sc W s g hW h
  simp only [ckS] at h
  split at h
  · exact ps_wk ps_break fun D σ H ⟨ρ, l, s, rs, rl, hp⟩ => hp ρ H σ .refl rs rl
  · cases h
theorem t_cnt : SS T cf k N .cnt := by
  intro X sc W s g hW h
  simp only [ckS] at h
  split at h
  · exact ps_wk ps_continue fun D σ H ⟨ρ, l, s, rs, rl, hp⟩ => hp ρ H σ .refl rs rl
  · cases h
theorem t_pass : SS T cf k N .pass := by
  intro X sc W s g hW h
  simp only [ckS] at h
  split at h
  · exact ps_wk ps_pass fun D σ H ⟨ρ, l, s, rs, rl, hp⟩ => hp ρ H σ .refl rs rl
  · exact ps_wk ps_doc fun D σ H ⟨ρ, l, s, rs, rl, hp⟩ => hp ρ H σ .refl rs rl
  · cases h
theorem t_ifs {c : Ex} {a b : Sm} (ha : SL T cf k N a) (hb : SL T cf k N b) : SS T cf k N (.ifs c a b) := by
  intro X sc W s g hW h
  simp only [ckS] at h
  split at h
  · rename_i x y z p
    obtain ⟨h, h3⟩ := and2 h
    obtain ⟨h1, h2⟩ := and2 h
    have sc' := (snd_all c).1 X sc W x g.g h1
    refine ps_wk (ps_if sc'.b (ha X sc W y g (hW.imp id fun q => by simp only [Sm.simple] at q; exact (and2 q).1) h2) (hb X sc W z g (hW.imp id fun q => by simp only [Sm.simple] at q; exact (and2 q).2) h3)) fun D σ H ⟨ρ, l, s, rs, rl, hp⟩ => ?_
    refine ⟨ρ, l, s, rs, rl, PostS.bind hp fun t s1 ρ1 H1 v e1 rs1 r1 h1 => ?_⟩
    cases r1
    cases t with
    | true => exact iteT ⟨ρ1, l, s1, rs1, rl.mono e1, h1⟩
    | false => exact iteF ⟨ρ1, l, s1, rs1, rl.mono e1, h1⟩
  · cases h
/-! assignments -/
theorem sw_none {t x : Expr} {env : Env} (ht : okE t = true) (h : (match t with | .Name .. => true | .Subscript .. => true | _ => (match x with | .Tuple .. => false | _ => true)) = true) : swappedStores [t] x env = pure none := by
  cases t with
  | Name _ _ => rfl
  | Subscript _ _ _ => rfl
  | Tuple _ _ _ => cases x <;> first | rfl | cases h
  | List _ _ => cases x <;> first | rfl | cases h
  | _ => rfl
theorem tgt_post {K : Kw} {W : Wx} {ρ ρ1 : List Addr} {H H1 : Hp} {D' : Ends} {tg : Tg} {σ : L2.St} {l : Nv.Loc} {s1 : Sto} {d : Nv.D} {v : V} (e1 : Ext K ρ H ρ1 H1) (rs1 : RS K ρ1 H1 s1) (rl : RL K ρ H σ l) (r1 : RV K ρ1 H1 d v)
    (h : PostS K W ρ1 H1 D' (match bindT tg (unlD tg s1 d) l with | some l1 => .ok (.nx, l1) s1 | none => .no)) : tTg K tg v σ H1 D'.nx := by
  cases hb : bindT tg (unlD tg s1 d) l with
  | none => rw [hb] at h; exact h.elim
  | some l1 =>
    rw [hb] at h
    exact ⟨ρ1, l, s1, unlD tg s1 d, rs1, rl.mono e1, unl_ok rs1 r1, l1, hb, fun σ' rl' _ _ => h ρ1 H1 σ' .refl rs1 rl'⟩
theorem swapB_false {sc : Scope} {t x : Expr} {X : Cx} (hs : X.env.scope = sc) (hx : okE x = true) (h : swapB sc t x = some false) (n : Nat) : swapsWith x (some t) n X.env = pure false := by
  cases x with
  | ListComp a b c d =>
    unfold swapB at h
    simp only at h
    split at h
    · rename_i y py
      split at h
      · split at h <;> cases h
      · rename_i hn
        unfold swapsWith
        have : (X.env.kindOf y == some NameKind.local) = false := by
          show (X.env.scope.names.lookup y == some NameKind.local) = false
          rw [hs]
          exact beq_eq_false_iff_ne.mpr hn
        simp only [this, Bool.and_false, Bool.false_and]
    · rename_i hn
      cases t <;> first | rfl | exact absurd rfl (hn _ _)
  | _ => exact ok_swap hx rfl _ _ _
/-- a comprehension given to a name -/
theorem set_lc0 {tg : Tg} {elt it cc : Ex} {tg2 : Tg} {own : List Nat} {X : Cx} {sc : Scope} {W : WX} {t a : Expr} {b : List Comprehension} {c : Scope} {d p : Pos} (g : GoodS T cf k N sc X W) (h1 : ckT N sc tg t = true) (h2 : (ck T N (.cp elt tg2 it cc own)).e sc (.ListComp a b c d) = true) (hsw : swapB sc t (.ListComp a b c d) = some true) :
    ∃ i0, tg = .v i0 ∧ PS X (.Assign [t] (.ListComp a b c d) p) fun D σ H => ∃ ρ l s, RS X.kw ρ H s ∧ RL X.kw ρ H σ l ∧ Post X.kw (wS X.mg W σ) (rRR X.kw) ρ H (fun v H' => gName i0 v σ H' D.nx) (((den cf T.gc it).i l s).bind fun its s1 => (cpLoop tg2 its.src (den cf T.gc cc).b (den cf T.gc elt).v (wipeL l own) its.ds [] s1).bind fun ys s2 => .ok (.l ys) s2) := by
  obtain ⟨x, t2, i, ifs, scope, pp, e0, oki, pi, blk, hown, hsl, hg, ht, hx⟩ := cp_parts (snd_all elt).1 (snd_all it).1 (snd_all cc).1 g.g h2
  cases e0
  cases tg with
  | n => cases t <;> first | cases hsw | (simp [ckT] at h1)
  | c _ _ => cases t <;> first | cases hsw | (simp [ckT] at h1)
  | v i0 =>
    refine ⟨i0, rfl, ?_⟩
    cases t with
    | Name y py =>
      unfold swapB at hsw
      simp only at hsw
      split at hsw
      · rename_i hy
        split at hsw
        · rename_i hc
          have h1' : (decide (N[i0]? = some y) && locB sc y) = true := by simpa [ckT] using h1
          have hy2 : X.env.scope.names.lookup y = some .local := by rw [g.g.sc]; exact hy
          have hkind : X.env.scope.kind = .function := g.kind
          have pe := ps_setLc (i := i0) (y := y) (py := py) (pos := d) (spos := p) g.g.calm (by rw [g.g.nm]; exact g.g.nd) (by rw [g.g.nm]; exact of_decide_eq_true (and2 h1').1) hy2 (sw_true hkind hy2 hc.1 hc.2) pi blk hg ht hx (ok_fold oki X.env)
          rw [hown] at pe
          refine ps_wk pe fun D σ H ⟨ρ, l, s, rs, rl, hq⟩ => ?_
          exact ⟨ρ, l, s, rs, rl, Post.bind bkRR hq fun its s1 ρ1 H1 J e1 rs1 ri h1 => fun Dd hD => lc_turns hsl rs1 (rl.mono e1) ri h1 Dd hD⟩
        · cases hsw
      · cases hsw
    | _ => simp [ckT] at h1
theorem set_lc {tg : Tg} {elt it cc : Ex} {tg2 : Tg} {own : List Nat} {X : Cx} {sc : Scope} {W : WX} {t a : Expr} {b : List Comprehension} {c : Scope} {d p : Pos} (g : GoodS T cf k N sc X W) (h1 : ckT N sc tg t = true) (h2 : (ck T N (.cp elt tg2 it cc own)).e sc (.ListComp a b c d) = true) (hsw : swapB sc t (.ListComp a b c d) = some true) :
    PS X (.Assign [t] (.ListComp a b c d) p) (tSs X.kw (wS X.mg W) (sden cf T.gc (.set tg (.cp elt tg2 it cc own)))) := by
  obtain ⟨i0, rfl, pe⟩ := set_lc0 (p := p) g h1 h2 hsw
  refine ps_wk pe fun D σ H ⟨ρ, l, s, rs, rl, hp⟩ => ?_
  have hp : PostS X.kw _ ρ H D ((allocR (((den cf T.gc it).i l s).bind fun its s1 => (cpLoop tg2 its.src (den cf T.gc cc).b (den cf T.gc elt).v (wipeL l own) its.ds [] s1).bind fun ys s2 => .ok (.l ys) s2)).bind fun d s1 => match bindT (.v i0) d l with
    | some l1 => .ok (.nx, l1) s1
    | none => .no) := hp
  refine ⟨ρ, l, s, rs, rl, alloc_post (PostS.bind hp fun dd s1 ρ1 H1 v e1 rs1 r1 h1 => ?_)⟩
  cases hb : bindT (.v i0) dd l with
  | none => rw [hb] at h1; exact h1.elim
  | some l1 =>
    rw [hb] at h1
    have hb : (if i0 < l.length then some (l.set i0 (some dd)) else none) = some l1 := by simpa [bindT] using hb
    split at hb
    · cases hb
      exact h1 ρ1 H1 _ .refl rs1 ((rl.mono e1).set r1)
    · cases hb
/-- .. that will never change -/
def tFrzS (t : TS) : TS := fun D σ H => t { D with nx := fun σ' H' => D.nx σ' H' ∨ ∃ a u, H' a = some u ∧ L2.Mut (some u) ∧ ∀ od, D.nx σ' (upd H' a (.frz od u)) } σ H
theorem ps_frz {X : Cx} {s : Stmt} {t : TS} (h : PS X s t) : PS X s (tFrzS t) := by
  refine ⟨fun pins s σ H D I hw => ?_⟩
  refine thn (h.run pins s σ H _ I hw) fun f s1 q => ?_
  cases f with
  | next =>
    obtain ⟨σ', H', I2, q⟩ := q
    rcases q with q | ⟨a, vs, h1, hm, q⟩
    · exact ⟨σ', H', I2, q⟩
    · obtain ⟨od, I3⟩ := I2.lock h1 hm
      exact ⟨σ', _, I3, q od⟩
  | brk => exact q
  | cont => exact q
  | ret v => exact q
theorem set_lcF {tg : Tg} {elt it cc : Ex} {tg2 : Tg} {own : List Nat} {X : Cx} {sc : Scope} {W : WX} {t a : Expr} {b : List Comprehension} {c : Scope} {d p : Pos} (g : GoodS T cf k N sc X W) (h1 : ckT N sc tg t = true) (h2 : (ck T N (.cp elt tg2 it cc own)).e sc (.ListComp a b c d) = true) (hsw : swapB sc t (.ListComp a b c d) = some true) :
    PS X (.Assign [t] (.ListComp a b c d) p) (tSs X.kw (wS X.mg W) (sden cf T.gc (.set tg (.frz (.cp elt tg2 it cc own))))) := by
  obtain ⟨i0, rfl, pe⟩ := set_lc0 (p := p) g h1 h2 hsw
  refine ps_wk (ps_frz pe) fun D σ H ⟨ρ, l, s, rs, rl, hp⟩ => ⟨ρ, l, s, rs, rl, ?_⟩
  have hp : PostS X.kw _ ρ H D ((allocR ((((den cf T.gc it).i l s).bind fun its s1 => (cpLoop tg2 its.src (den cf T.gc cc).b (den cf T.gc elt).v (wipeL l own) its.ds [] s1).bind fun ys s2 => .ok (.l ys) s2).bind fun x s1 => .ok (frzR x) s1)).bind fun d s1 => match bindT (.v i0) d l with
    | some l1 => .ok (.nx, l1) s1
    | none => .no) := hp
  cases hm : (((den cf T.gc it).i l s).bind fun its s1 => (cpLoop tg2 its.src (den cf T.gc cc).b (den cf T.gc elt).v (wipeL l own) its.ds [] s1).bind fun ys s2 => (.ok (.l ys) s2 : Res RD)) with
  | no => rw [hm] at hp; exact hp
  | ex x s1 => rw [hm] at hp; exact hp
  | ok x s1 =>
    obtain ⟨xs, rfl⟩ : ∃ xs, x = .l xs := by
      cases hi : (den cf T.gc it).i l s with
      | no => rw [hi] at hm; cases hm
      | ex _ _ => rw [hi] at hm; cases hm
      | ok its s2 =>
        rw [hi] at hm
        have hm : (cpLoop tg2 its.src (den cf T.gc cc).b (den cf T.gc elt).v (wipeL l own) its.ds [] s2).bind (fun ys s2 => (.ok (.l ys) s2 : Res RD)) = .ok x s1 := hm
        cases hc : cpLoop tg2 its.src (den cf T.gc cc).b (den cf T.gc elt).v (wipeL l own) its.ds [] s2 with
        | no => rw [hc] at hm; cases hm
        | ex _ _ => rw [hc] at hm; cases hm
        | ok ys s3 => rw [hc] at hm; cases hm; exact ⟨ys, rfl⟩
    rw [hm] at hp
    have hp : PostS X.kw _ ρ H D (match bindT (.v i0) (.lf xs) l with | some l1 => .ok (.nx, l1) s1 | none => .no) := hp
    intro ρ1 H1 v e1 rs1 r1
    cases hb : bindT (.v i0) (.lf xs) l with
    | none => rw [hb] at hp; exact hp.elim
    | some l1 =>
      rw [hb] at hp
      have hp : ∀ ρ' H' σ', Ext X.kw ρ H ρ' H' → RS X.kw ρ' H' s1 → RL X.kw ρ' H' σ' l1 → D.nx σ' H' := hp
      have hb : (if i0 < l.length then some (l.set i0 (some (.lf xs))) else none) = some l1 := by simpa [bindT] using hb
      split at hb
      · cases hb
        rcases frz_rr e1 rs1 r1 with q | ⟨a, u, rfl, q1, q2, q⟩
        · exact .inl (hp ρ1 H1 _ e1 rs1 ((rl.mono e1).set q))
        · refine .inr ⟨a, u, q1, q2, fun od => ?_⟩
          obtain ⟨z1, z2, z3⟩ := q od
          exact hp ρ1 _ _ z1 z2 ((rl.mono z1).set z3)
      · cases hb
theorem t_set {tg : Tg} {e : Ex} : SS T cf k N (.set tg e) := by
  intro X sc W s g hW h
  simp only [ckS] at h
  split at h
  · rename_i t x p
    obtain ⟨h, h4⟩ := and2 h
    obtain ⟨h, h3⟩ := and2 h
    obtain ⟨h1, h2⟩ := and2 h
    have se := (snd_all e).1 X sc W x g.g h2
    have pg := (pg_any (X := X) (N := N) (scw := sc) g.g.nm g.g.nd g.g.calm g.st tg).1 t h1
    have hw : swappedStores [t] x X.env = pure none := by
      refine sw_none (ckT_ok h1) ?_
      cases tg with
      | v i =>
        cases t with
        | Name _ _ => rfl
        | _ => simp [ckT] at h1
      | n => cases t <;> first | rfl | exact h3
      | c a b => cases t <;> first | rfl | exact h3
    cases hsw : swapB sc t x with
    | none => rw [hsw] at h4; cases h4
    | some b =>
      cases b with
      | false =>
        refine ps_wk (ps_asg se.v pg (swapB_false g.g.sc se.ok hsw p.line) hw (by rw [assignEach_ok (ckT_ok h1)]; rfl)) fun D σ H ⟨ρ, l, s, rs, rl, hp⟩ => ?_
        exact ⟨ρ, l, s, rs, rl, PostS.bind hp fun d s1 ρ1 H1 v e1 rs1 r1 h1 => tgt_post e1 rs1 rl r1 h1⟩
      | true =>
        obtain ⟨a, b, c, d, rfl⟩ : ∃ a b c d, x = .ListComp a b c d := by
          cases x <;> first | exact ⟨_, _, _, _, rfl⟩ | exact Bool.noConfusion (Option.some.inj (show some false = some true from hsw))
        rcases ck_lc h2 with ⟨elt, tg2, it, cc, own, rfl⟩ | ⟨elt, tg2, it, cc, own, rfl, h2⟩
        · exact set_lc g h1 h2 hsw
        · exact set_lcF g h1 h2 hsw
  · cases h

theorem sub_ok {y : Expr} (h : okE y = true) (x : Expr) (p : Pos) (env : Env) : ∀ v, assign (.Subscript x y p) env v = (do
      let ov ← holding [v] (eval x env)
      let iv ← holding [v, ov] (eval y env)
      standAt p
      holding [v, ov, iv] (setItem ov iv v)
      release [v, ov, iv] []) := by
  intro v
  cases y <;> first | rfl | cases h
theorem setR_ex {p k d : Nv.D} {s s' : Sto} {x : Nv.D} {P : Prop} (h : setR p k d s = .ex x s') : P := by
  unfold setR at h
  split at h
  · split at h
    · split at h
      · split at h <;> cases h
      · cases h
    · split at h
      · split at h <;> cases h
      · split at h
        · split at h <;> cases h
        · split at h
          · split at h <;> cases h
          · cases h
    · cases h
  · cases h
theorem t_setI {o i e : Ex} : SS T cf k N (.setI o i e) := by
  intro X sc W s g hW h
  simp only [ckS] at h
  split at h
  · rename_i x y p1 z p2
    obtain ⟨h, h3⟩ := and2 h
    obtain ⟨h1, h2⟩ := and2 h
    have so := (snd_all o).1 X sc W x g.g h1
    have si := (snd_all i).1 X sc W y g.g h2
    have se := (snd_all e).1 X sc W z g.g h3
    have hsw : swapsWith z (some (.Subscript x y p1)) p2.line X.env = pure false := by
      cases hz : z with
      | ListComp a b c d => rfl
      | _ => rw [← hz]; exact ok_swap se.ok (by rw [hz]; rfl) _ _ _
    refine ps_wk (ps_asg se.v (pg_sub so.v si.v (set_any (by have := g.g.hu; omega)) (sub_ok si.ok x p1 X.env)) hsw rfl rfl) fun D σ H ⟨ρ, l, s, rs, rl, hp⟩ => ?_
    refine ⟨ρ, l, s, rs, rl, PostS.bind hp fun d s1 ρ1 H1 v e1 rs1 r1 h1 => ?_⟩
    refine ⟨ρ1, l, s1, rs1, rl.mono e1, PostS.bind h1 fun p s2 ρ2 H2 v2 e2 rs2 r2 h2 => ?_⟩
    refine ⟨ρ2, l, s2, rs2, (rl.mono e1).mono e2, PostS.bind h2 fun kk s3 ρ3 H3 v3 e3 rs3 r3 h3 => ?_⟩
    refine ⟨ρ3, s3, p, kk, d, rs3, RV.mono e3 _ _ r2, r3, RV.mono (e2.trans e3) _ _ r1, ?_⟩
    cases hs : setR p kk d s3 with
    | no => rw [hs] at h3; exact h3.elim
    | ex x s => rw [hs] at h3; exact setR_ex hs
    | ok a s4 =>
      rw [hs] at h3
      exact fun H' e4 rs4 => h3 ρ3 H' σ e4 rs4 ((((rl.mono e1).mono e2).mono e3).mono e4)
  · cases h
def rAug (K : PySem.W.Frag) (o : Bop) : TIp := fun x y H Q => (∃ i j, x = .int i ∧ y = .int j ∧ ((o = .add ∧ Q (.int (i + j)) H) ∨ (o = .sub ∧ Q (.int (i - j)) H))) ∨ ∃ i j, x = .str i ∧ y = .str j ∧ o = .add ∧ i.length + j.length ≤ sizeLine ∧ Q (.str (i ++ j)) H
theorem ip_aug {X : Cx} (o : Bop) : PIp X o.op (rAug X.K o) := by
  intro pins s σ H x y v u Q I r1 r2 h
  rcases h with ⟨i, j, rfl, rfl, ⟨rfl, q⟩ | ⟨rfl, q⟩⟩ | ⟨i, j, rfl, rfl, rfl, hz, q⟩
  · exact ip_add pins s σ H _ _ v u Q I r1 r2 ⟨i, j, rfl, rfl, q⟩
  · exact ip_sub pins s σ H _ _ v u Q I r1 r2 ⟨i, j, rfl, rfl, q⟩
  · exact iop_add_str pins s σ H _ _ v u Q I r1 r2 ⟨i, j, rfl, rfl, hz, q⟩
theorem t_aug {i : Nat} {o : Bop} {e : Ex} : SS T cf k N (.aug i o e) := by
  intro X sc W s g hW h
  simp only [ckS] at h
  split at h
  · rename_i x p1 op z p2
    obtain ⟨h, h4⟩ := and2 h
    obtain ⟨h, h3⟩ := and2 h
    obtain ⟨h1, h2⟩ := and2 h
    cases of_decide_eq_true h1
    have se := (snd_all e).1 X sc W z g.g h4
    obtain ⟨l1, l2⟩ := g.st x h3
    refine ps_wk (ps_aug (i := i) (by rw [g.g.nm]; exact g.g.nd) (by rw [g.g.nm]; exact of_decide_eq_true h2) l1 se.r (ip_aug o) l2) fun D σ H ⟨ρ, l, s, rs, rl, hp⟩ => ?_
    have hp : PostS X.kw _ ρ H D (match l[i]? with
      | some (some x) => ((den cf T.gc e).r l s).bind fun y s1 => (ofO (augR o x y) s1).bind fun d s2 => .ok (.nx, l.set i (some d)) s2
      | _ => .no) := hp
    split at hp
    · rename_i d hd
      obtain ⟨v, h5, h6⟩ := rl.at_ i d hd
      refine ⟨v, h5, ρ, l, s, rs, rl, PostS.bind hp fun y s1 ρ1 H1 yv e1 rs1 r1 h1 => ?_⟩
      have h6 := RV.mono e1 _ _ h6
      cases ha : augR o d y with
      | none => rw [ha] at h1; exact h1.elim
      | some d' =>
        rw [ha] at h1
        have fin : ∀ v', RV X.kw ρ1 H1 d' v' → D.nx (σ.set i (some v')) H1 := fun v' r' => h1 ρ1 H1 _ .refl rs1 ((rl.mono e1).set r')
        unfold augR at ha
        split at ha
        · cases ha
          exact .inl ⟨_, _, rv_int.mp h6, rr_int r1, .inl ⟨rfl, fin _ (rv_int.mpr rfl)⟩⟩
        · cases ha
          exact .inl ⟨_, _, rv_int.mp h6, rr_int r1, .inr ⟨rfl, fin _ (rv_int.mpr rfl)⟩⟩
        · split at ha
          · rename_i hz
            cases ha
            exact .inr ⟨_, _, rv_str.mp h6, rr_str r1, rfl, hz, fin _ (rv_str.mpr rfl)⟩
          · cases ha
        · cases ha
    · exact hp.elim
  · cases h
/-! loops -/
/-- a turn's end -/
theorem turn_post {K : Kw} {W : Wx} {ρ : List Addr} {H : Hp} {D : Ends} {Nx : L2.St → Hp → Prop} {r : Res (Fl × Nv.Loc)} {f : Nv.Loc → Sto → Res (Fl × Nv.Loc)} (hn : ∀ ρ1 H1 σ1 l1 s1, Ext K ρ H ρ1 H1 → RS K ρ1 H1 s1 → RL K ρ1 H1 σ1 l1 → PostS K W ρ1 H1 D (f l1 s1) → Nx σ1 H1)
    (h : PostS K W ρ H D (r.bind fun fl s1 => match fl.1 with
      | .nx => f fl.2 s1
      | .ct => f fl.2 s1
      | .bk => .ok (.nx, fl.2) s1
      | .rt d => .ok (.rt d, fl.2) s1)) : PostS K W ρ H { D with nx := Nx, ct := Nx, bk := D.nx } r := by
  cases r with
  | ok a s =>
    obtain ⟨fl, l⟩ := a
    cases fl with
    | nx => exact fun ρ' H' σ' e rs rl => hn ρ' H' σ' l s e rs rl (PostS.mono e h)
    | ct => exact fun ρ' H' σ' e rs rl => hn ρ' H' σ' l s e rs rl (PostS.mono e h)
    | bk => exact h
    | rt d => exact h
  | ex x s => exact h
  | no => exact h
theorem t_wh {c : Ex} {b : Sm} (hb : SL T cf k N b) : SS T cf k N (.wh c b) := by
  intro X sc W s g hW h
  simp only [ckS] at h
  split at h
  · rename_i x y p
    obtain ⟨h1, h2⟩ := and2 h
    have sc' := (snd_all c).1 X sc W x g.g h1
    have w : WI W := hW.resolve_right (by simp [Sm.simple])
    refine ps_wk (ps_while g.po sc'.b (hb X sc W y g (.inl w) h2)) fun D σ H ⟨ρ, l, s, rs, rl, hp⟩ => ?_
    refine ⟨fun m σ H => ∃ ρ l s, RS X.kw ρ H s ∧ RL X.kw ρ H σ l ∧ PostS X.kw (wS X.mg W σ) ρ H D (whLoop (den cf T.gc c).b (sden cf T.gc b) m l s), ⟨whileFuel, ρ, l, s, rs, rl, hp⟩, ?_⟩
    rintro m σ H ⟨ρ, l, s, rs, rl, hp⟩
    cases m with
    | zero => exact hp.elim
    | succ m =>
      unfold whLoop at hp
      refine ⟨ρ, l, s, rs, rl, PostS.bind hp fun t s1 ρ1 H1 v e1 rs1 r1 h1 => ?_⟩
      cases r1
      cases t with
      | false =>
        rw [if_neg Bool.false_ne_true] at h1
        exact iteF (h1 ρ1 H1 σ .refl rs1 (rl.mono e1))
      | true =>
        rw [if_pos rfl] at h1
        refine iteT ⟨fun σ' H' => ∃ ρ l s, RS X.kw ρ H' s ∧ RL X.kw ρ H' σ' l ∧ PostS X.kw (wS X.mg W σ') ρ H' D (whLoop (den cf T.gc c).b (sden cf T.gc b) m l s), fun σ' H' q => ⟨m, by omega, q⟩, ?_⟩
        exact ⟨ρ1, l, s1, rs1, rl.mono e1, turn_post (fun ρ2 H2 σ2 l2 s2 _ rs2 rl2 q => ⟨ρ2, l2, s2, rs2, rl2, PostS.toW (wS_indep w) q⟩) h1⟩
  · cases h
theorem posts_ite {K : Kw} {W : Wx} {ρ : List Addr} {H : Hp} {D : Ends} {c : Prop} {inst : Decidable c} {r : Res (Fl × Nv.Loc)} (h : PostS K W ρ H D (if c then r else .no)) : c ∧ PostS K W ρ H D r := by
  by_cases hc : c
  · rw [if_pos hc] at h; exact ⟨hc, h⟩
  · rw [if_neg hc] at h; exact h.elim
theorem t_for {tg : Tg} {it : Ex} {b : Sm} (hb : SL T cf k N b) : SS T cf k N (.for_ tg it b) := by
  intro X sc W s g hW h
  simp only [ckS] at h
  split at h
  · rename_i t x y p
    obtain ⟨h, h3⟩ := and2 h
    obtain ⟨h, h2⟩ := and2 h
    obtain ⟨h1, htg⟩ := and2 h
    have si := (snd_all it).1 X sc W x g.g h2
    have pg := (pg_any (X := X) (N := N) (scw := sc) g.g.nm g.g.nd g.g.calm g.st tg).1 t h1
    have wi : WI W := hW.resolve_right (by simp [Sm.simple])
    refine ps_wk (ps_for g.po g.g.calm (si.i t htg) pg (hb X sc W y g (.inl wi) h3) (ok_fold si.ok X.env)) fun D σ H ⟨ρ, l, s, rs, rl, hp⟩ => ?_
    refine ⟨ρ, l, s, rs, rl, PostS.bind hp fun its s1 ρ1 H1 J e1 rs1 ri h1 => ?_⟩
    refine ⟨fun i m σ H => ∃ ρ l s, Ext X.kw ρ1 H1 ρ H ∧ RS X.kw ρ H s ∧ RL X.kw ρ H σ l ∧ i + m = its.ds.length ∧ PostS X.kw (wS X.mg W σ) ρ H D (forLoop tg its.src (sden cf T.gc b) (its.ds.drop i) l s), ⟨its.ds.length, ρ1, l, s1, .refl, rs1, rl.mono e1, by omega, h1⟩, ?_⟩
    rintro i m σ H ⟨ρ, l, s, ex, rs, rl, him, hq⟩
    by_cases hlt : i < its.ds.length
    · right
      rw [List.drop_eq_getElem_cons hlt] at hq
      unfold forLoop at hq
      obtain ⟨so, hq⟩ := posts_ite hq
      obtain ⟨t1, _⟩ := ri ρ H s ex rs so i
      obtain ⟨go, yl⟩ := t1 its.ds[i] (List.getElem?_eq_getElem hlt)
      refine ⟨go, fun σ' H' => ∃ ρ l s, Ext X.kw ρ1 H1 ρ H' ∧ RS X.kw ρ H' s ∧ RL X.kw ρ H' σ' l ∧ i + 1 + (m - 1) = its.ds.length ∧ PostS X.kw (wS X.mg W σ') ρ H' D (forLoop tg its.src (sden cf T.gc b) (its.ds.drop (i + 1)) l s), fun σ' H' w => ⟨m - 1, by omega, w⟩, fun v H2 hy => ?_⟩
      obtain ⟨ex2, rs2, rx⟩ := yl v H2 hy
      cases hbd : bindT tg its.ds[i] l with
      | none => rw [hbd] at hq; exact hq.elim
      | some l1 =>
        rw [hbd] at hq
        refine ⟨ρ, l, s, _, rs2, rl.mono ex2, .inl rx, l1, hbd, fun σ2 rl2 _ _ => ?_⟩
        have hq2 := PostS.toW (wS_indep (σ' := σ2) wi) (PostS.mono ex2 hq)
        exact ⟨ρ, l1, s, rs2, rl2, turn_post (fun ρ3 H3 σ3 l3 s3 ex3 rs3 rl3 q => ⟨ρ3, l3, s3, (ex.trans ex2).trans ex3, rs3, rl3, by omega, PostS.toW (wS_indep wi) q⟩) hq2⟩
    · left
      have hi : i = its.ds.length := by omega
      rw [List.drop_eq_nil_of_le (by omega)] at hq
      unfold forLoop at hq
      obtain ⟨so, hq⟩ := posts_ite hq
      obtain ⟨_, t2⟩ := ri ρ H s ex rs so i
      exact ⟨t2 hi.symm, hq ρ H σ .refl rs rl⟩
  · cases h
/-- o[lo:hi] = .. -/
def gSl (to : TE) (tl th : TO) : TG := fun v σ H Q => to σ H fun o H1 => tl σ H1 fun a H2 => th σ H2 fun c H3 => ∃ (l b : Addr) (xs ys : List V) (i j : Int), o = .ref l ∧ v = .ref b ∧ H3 l = some (.lst xs) ∧ H3 b = some (.lst ys) ∧ l ≠ b ∧ a = some i ∧ c = some j ∧ 0 ≤ i ∧ i ≤ j ∧ j ≤ xs.length ∧
  xs.length + ys.length ≤ sizeLine ∧ Q σ (upd H3 l (.lst (xs.take i.toNat ++ ys ++ xs.drop j.toNat)))
theorem pg_sl {X : Cx} {o : Expr} {lo hi : Option Expr} {p2 pos : Pos} {to : TE} {tl th : TO} (ho : PE X o to) (hl : PO X lo tl) (hu : PO X hi th) : PG X (.Subscript o (.Slice lo hi none p2) pos) (gSl to tl th) := by
  refine ⟨fun pins s σ H v u Q I r h => ?_⟩
  have ha : assign (.Subscript o (.Slice lo hi none p2) pos) X.env u = (do
      let ov ← holding [u] (eval o X.env)
      let iv ← holding [u, ov] (eval (.Slice lo hi none p2) X.env)
      standAt pos
      holding [u, ov, iv] (setItem ov iv u)
      release [iv, u, ov] []) := by rfl
  rw [ha]
  refine wpAny_bind (wpAny_holding (thn (ho.run pins s σ H _ I h) fun ov s1 ⟨x, H1, I1, r1, q1⟩ => ?_))
  refine wpAny_bind (wpAny_holding ?_)
  refine wpAny_Slice (thn (hl.run pins s1 σ H1 _ I1 q1) fun vl s2 ⟨a, H2, I2, pl, q2⟩ => thn (hu.run pins s2 σ H2 _ I2 q2) fun vu s3 ⟨c, H3, I3, pu, q3⟩ => ?_)
  rw [evalPart_none]
  refine wpAny_pure ?_
  obtain ⟨l, b, xs, ys, i, j, rfl, rfl, hx, hy, hne, rfl, rfl, h1, h2, h3, h4, q⟩ := q3
  cases r
  cases r1
  have I4 : Inv X pins σ H3 { s3 with heap := s3.heap.push { cls := .type "slice", data := .fields #[vl, vu, .none] } } := I3.kept (t' := s3.toks) fun b ob q => Heap.get?_push_of_some _ q
  show wpAny (model X.prog X.w) X.A (standAt pos >>= fun _ => _) _ X.xe { s3 with heap := s3.heap.push { cls := .type "slice", data := .fields #[vl, vu, .none] } }
  refine wpAny_bind (wpAny_standAt (wpAny_bind (wpAny_holding ?_)))
  refine set_slice I4 hx hy hne (Heap.IsSliceOf.new ..) (a := i) (c := j) ?_ ?_ h1 h2 h3 h4 fun s' I' => wpAny_release ⟨σ, _, I', q⟩
  · cases pl; exact ⟨_, rfl⟩
  · cases pu; exact ⟨_, rfl⟩
theorem t_setSl {o lo hi e : Ex} : SS T cf k N (.setSl o lo hi e) := by
  intro X sc W s g hW h
  simp only [ckS] at h
  split at h
  · rename_i x a b p0 p1 z p2
    obtain ⟨h, h4⟩ := and2 h
    obtain ⟨h, h3⟩ := and2 h
    obtain ⟨h1, h2⟩ := and2 h
    have so := (snd_all o).1 X sc W x g.g h1
    have sl := (snd_all lo).1 X sc W a g.g h2
    have sh := (snd_all hi).1 X sc W b g.g h3
    have se := (snd_all e).1 X sc W z g.g h4
    have hsw : swapsWith z (some (.Subscript x (.Slice (some a) (some b) none p0) p1)) p2.line X.env = pure false := by
      cases hz : z with
      | ListComp a b c d => rfl
      | _ => rw [← hz]; exact ok_swap se.ok (by rw [hz]; rfl) _ _ _
    refine ps_wk (ps_asg se.v (pg_sl so.v (po_some sl.r) (po_some sh.r)) hsw rfl rfl) fun D σ H ⟨ρ, l, s, rs, rl, hp⟩ => ?_
    refine ⟨ρ, l, s, rs, rl, PostS.bind hp fun d s1 ρ1 H1 v e1 rs1 r1 h1 => ?_⟩
    refine ⟨ρ1, l, s1, rs1, rl.mono e1, PostS.bind h1 fun p s2 ρ2 H2 v2 e2 rs2 r2 h2 => ?_⟩
    have rl2 := (rl.mono e1).mono e2
    have h2' : PostS X.kw (wS X.mg W σ) ρ2 H2 D (((den cf T.gc lo).r l s2).bind fun y s3 => (match y with | .d (.int i) => (.ok (some i) s3 : Res (Option Int)) | _ => .no).bind fun i s3 => (optI false (den cf T.gc hi).r l s3).bind fun j s4 =>
      match i, j with
      | some i, some j => (setSlR p d i j s4).bind fun _ s5 => .ok (.nx, l) s5
      | _, _ => .no) := by
      have e : (optI false (den cf T.gc lo).r l s2) = ((den cf T.gc lo).r l s2).bind fun y s3 => (match y with | .d (.int i) => (.ok (some i) s3 : Res (Option Int)) | _ => .no) := rfl
      rw [e, bind_assoc] at h2
      exact h2
    refine ⟨ρ2, l, s2, rs2, rl2, PostS.bind h2' fun y s3 ρ3 H3 v3 e3 rs3 r3 h3 => ?_⟩
    have key : ∀ i : Int, y = .d (.int i) → PostS X.kw (wS X.mg W σ) ρ3 H3 D (((den cf T.gc hi).r l s3).bind fun w s4 => (match w with | .d (.int j) => (.ok (some j) s4 : Res (Option Int)) | _ => .no).bind fun j s4 =>
      match some i, j with
      | some i, some j => (setSlR p d i j s4).bind fun _ s5 => .ok (.nx, l) s5
      | _, _ => .no) := by
      intro i ey
      subst ey
      have e : (optI false (den cf T.gc hi).r l s3) = ((den cf T.gc hi).r l s3).bind fun y s3 => (match y with | .d (.int i) => (.ok (some i) s3 : Res (Option Int)) | _ => .no) := rfl
      have h4 : PostS X.kw (wS X.mg W σ) ρ3 H3 D ((optI false (den cf T.gc hi).r l s3).bind fun j s4 => match some i, j with
        | some i, some j => (setSlR p d i j s4).bind fun _ s5 => .ok (.nx, l) s5
        | _, _ => .no) := h3
      rw [e, bind_assoc] at h4
      exact h4
    cases y with
    | l z => exact h3.elim
    | m z => exact h3.elim
    | d z => cases z with
      | int i =>
        refine ⟨i, rr_int r3, ρ3, l, s3, rs3, rl2.mono e3, PostS.bind (key i rfl) fun w s4 ρ4 H4 v4 e4 rs4 r4 h4 => ?_⟩
        cases w with
        | l z => exact h4.elim
        | m z => exact h4.elim
        | d z => cases z with
          | int j =>
            have h5 : PostS X.kw _ ρ4 H4 D ((setSlR p d i j s4).bind fun _ s5 => .ok (.nx, l) s5) := h4
            refine ⟨j, rr_int r4, ?_⟩
            cases hs : setSlR p d i j s4 with
            | no => rw [hs] at h5; exact h5.elim
            | ex _ _ =>
              unfold setSlR at hs
              split at hs
              · split at hs
                · split at hs <;> cases hs
                · cases hs
              · cases hs
            | ok _ s5 =>
              rw [hs] at h5
              unfold setSlR at hs
              split at hs
              · rename_i pa qa
                split at hs
                · rename_i xs ys ex ey
                  split at hs
                  · rename_i c
                    cases hs
                    obtain ⟨c1, c2, c3, c4, c5⟩ := c
                    obtain ⟨la, vs, rfl, k1, k2, k3⟩ := obj_lst rs4 (RV.mono e4 _ _ (RV.mono e3 _ _ r2)) ex
                    obtain ⟨lb, us, rfl, m1, m2, m3⟩ := obj_lst rs4 (RV.mono e4 _ _ (RV.mono e3 _ _ (RV.mono e2 _ _ r1))) ey
                    refine ⟨la, lb, vs, us, i, j, rfl, rfl, k2, m2, fun z => c1 (nodup_ix_ rs4.nd k1 (by rw [z]; exact m1)), rfl, rfl, c2, c3, by rw [k3.length]; exact c4, by rw [k3.length, m3.length]; exact c5, ?_⟩
                    have ew := Ext.write (K := X.kw) (ws := vs.take i.toNat ++ us ++ vs.drop j.toNat) k2 (List.mem_of_getElem? k1)
                    exact h5 _ _ _ ew (rs4.write k1 k2 (((k3.take _).append m3).append (k3.drop _))) (((rl2.mono e3).mono e4).mono ew)
                  · cases hs
                · cases hs
              · cases hs
          | _ => exact h4.elim
      | _ => exact h3.elim
  · cases h
/-! exceptions -/
theorem t_raise {n : Str} : SS T cf k N (.raise n) := by
  intro X sc W s g hW h
  simp only [ckS] at h
  split at h
  · rename_i x p1 m j p2 p3 p4
    obtain ⟨h, h3⟩ := and2 h
    obtain ⟨h1, h2⟩ := and2 h
    cases of_decide_eq_true h1
    obtain ⟨g1, g2, _⟩ := g.g.gl h3
    obtain ⟨C, E⟩ := g.g.exc n h2
    obtain ⟨B, newId, initId, bmB, F, q⟩ := E.base
    refine ps_wk (ps_raise g.g.calm g.g.tk (pmk_own F q E.mg_ E.keep (raises_own E.sub E.ty) g1 g2)) fun D σ H ⟨ρ, l, s, rs, rl, hp⟩ => ?_
    obtain ⟨n', C', e1, e2, e3⟩ := hp ρ H .refl rs
    cases e1
    rw [E.mg_] at e2
    cases e2
    exact e3
  · cases h
theorem t_try {b : Sm} {cls : Str} {i : Nat} {n : Str} {h : Hs} (hb : SL T cf k N b) : SS T cf k N (.try_ b cls i n h) := by
  intro X sc W s g hW h'
  simp only [ckS] at h'
  split at h'
  · rename_i body x p1 e b0 suite p2 p3
    obtain ⟨h', h8⟩ := and2 h'
    obtain ⟨h', h7⟩ := and2 h'
    obtain ⟨h', h6⟩ := and2 h'
    obtain ⟨h', h5⟩ := and2 h'
    obtain ⟨h', h4⟩ := and2 h'
    obtain ⟨h', h3⟩ := and2 h'
    obtain ⟨h1, h2⟩ := and2 h'
    cases of_decide_eq_true h1
    obtain ⟨g1, g2, _⟩ := g.g.gl h2
    obtain ⟨C, D', e1, e2, e3, E⟩ := g.g.exm n cls h6
    have hl : sc.names.lookup e = some .local := of_decide_eq_true h4
    refine ps_wk (ps_try_as (i := i) (tb := fun W' => tSs X.kw (wS X.mg W') (sden cf T.gc b)) (ts := fun a cl d => fun D σ H => cl = .ref C ∧ d = none ∧ tHs X.kw a i _ D σ H)
      g.stk g.frm (by rw [g.g.nm]; exact g.g.nd) (by rw [g.g.nm]; exact of_decide_eq_true h3) (by show X.env.scope.names.lookup e = _; rw [g.g.sc]; exact hl) ⟨g1, g2, .inl e2⟩ g.g.tk
      (fun W' pn xe tk po => hb (X.tr pn xe) sc W' body ⟨⟨tk, g.g.exc, g.g.exm, g.g.isx, g.g.nm, g.g.nd, g.g.sc, g.g.calm, g.g.room, g.g.blt, g.g.con, g.g.kds, g.g.fns⟩, g.st, po, g.kind, g.stk, g.frm⟩ (.inr h5) h7)
      (fun a oe cl d pn hz hf => ⟨fun pins s σ H D I q => by
        obtain ⟨rfl, rfl, q⟩ := q
        exact (hs_ok (a := a) (pn := pn) g.g g.st E hz hf _ _ h8).run pins s σ H D I q⟩)) fun D σ H ⟨ρ, l, s, rs, rl, hp⟩ => ⟨ρ, l, s, rs, rl, ?_⟩
    have hp : PostS X.kw (wS X.mg W σ) ρ H D (match sden cf T.gc b l s with
      | .ex (.str m) s1 => if m = n ∧ i < l.length then .ok (.nx, (h.run (l.set i none)).set i none) s1 else .no
      | .ex _ _ => .no
      | r => r) := hp
    cases hr : sden cf T.gc b l s with
    | no => rw [hr] at hp; exact hp.elim
    | ok a s1 =>
      rw [hr] at hp
      obtain ⟨fl, l1⟩ := a
      cases fl <;> exact hp
    | ex y s1 =>
      rw [hr] at hp
      cases y with
      | str m =>
        have hp : PostS X.kw (wS X.mg W σ) ρ H D (if m = n ∧ i < l.length then .ok (.nx, (h.run (l.set i none)).set i none) s1 else .no) := hp
        obtain ⟨⟨hm, hil⟩, hq⟩ := posts_ite hp
        subst hm
        intro ρ' H' ex rs'
        refine ⟨m, C, rfl, e1, true, e3, fun _ a ha => ⟨rfl, rfl, ?_, fun H2 g2 => ?_⟩, fun z => by cases z⟩
        · rw [List.getElem?_set_self (by rw [← rl.len]; exact hil)]
        · have ex2 := ex.trans (g2.1 ρ')
          exact hq ρ' H2 _ ex2 (g2.2 ρ' _ rs') (RL.unk (RL.runS _ (RL.unk (rl.mono ex2))))
      | _ => exact hp.elim
  · cases h'
theorem no_s {t : Sm} (h : ∀ (sc : Scope) (e : Stmt), (ckS T N t).s sc e = false) : SS T cf k N t := fun X sc W e g hW q => by rw [h] at q; cases q
theorem no_sl {t : Sm} (h : ∀ (sc : Scope) (e : List Stmt), (ckS T N t).l sc e = false) : SL T cf k N t := fun X sc W e g hW q => by rw [h] at q; cases q
/-- ALL STATEMENTS -/
theorem snd_st (t : Sm) : SS T cf k N t ∧ SL T cf k N t := by
  induction t with
  | nil => exact ⟨no_s fun _ _ => rfl, t_nil⟩
  | cons a b ha hb => exact ⟨no_s fun _ _ => rfl, t_cons ha.1 hb.2⟩
  | ex e => exact ⟨t_ex, no_sl fun _ _ => rfl⟩
  | set tg e => exact ⟨t_set, no_sl fun _ _ => rfl⟩
  | setI o i e => exact ⟨t_setI, no_sl fun _ _ => rfl⟩
  | aug i o e => exact ⟨t_aug, no_sl fun _ _ => rfl⟩
  | ret e => exact ⟨t_ret, no_sl fun _ _ => rfl⟩
  | retN => exact ⟨t_retN, no_sl fun _ _ => rfl⟩
  | ifs c a b ha hb => exact ⟨t_ifs ha.2 hb.2, no_sl fun _ _ => rfl⟩
  | for_ tg it b hb => exact ⟨t_for hb.2, no_sl fun _ _ => rfl⟩
  | wh c b hb => exact ⟨t_wh hb.2, no_sl fun _ _ => rfl⟩
  | brk => exact ⟨t_brk, no_sl fun _ _ => rfl⟩
  | cnt => exact ⟨t_cnt, no_sl fun _ _ => rfl⟩
  | pass => exact ⟨t_pass, no_sl fun _ _ => rfl⟩
  | any => exact ⟨t_any, no_sl fun _ _ => rfl⟩
  | raise n => exact ⟨t_raise, no_sl fun _ _ => rfl⟩
  | try_ b cls i n h hb => exact ⟨t_try hb.2, no_sl fun _ _ => rfl⟩
  | setSl o lo hi e => exact ⟨t_setSl, no_sl fun _ _ => rfl⟩
end
end Nv

set_option Elab.async false
set_option linter.all false
set_option maxRecDepth 100000
set_option autoImplicit false
set_option maxHeartbeats 4000000
/-! NvFn: functions, the law. -/
namespace Nv
open PySem PySem.Spec PyProof.Rows L2
section
variable {K : Kw} {ρ : List Addr} {H : Hp} {b : Nat}
theorem take_get {l : List Addr} {i : Nat} {a : Addr} (h : l[i]? = some a) (hi : i < b) : (l.take b)[i]? = some a := by rw [List.getElem?_take_of_lt hi]; exact h
mutual
theorem RV.narrow : ∀ (d : Nv.D) (v : V), RV K ρ H d v → d.lt b = true → RV K (ρ.take b) H d v
  | .non, _, h, _ => by unfold RV at *; exact h
  | .bl _, _, h, _ => by unfold RV at *; exact h
  | .int _, _, h, _ => by unfold RV at *; exact h
  | .str _, _, h, _ => by unfold RV at *; exact h
  | .tup ds, _, h, q => by
    unfold RV at *
    obtain ⟨a, vs, e1, e2, e3⟩ := h
    exact ⟨a, vs, e1, e2, RVs.narrow ds vs e3 (by unfold D.lt at q; exact q)⟩
  | .lf ds, _, h, q => by
    unfold RV at *
    obtain ⟨a, vs, e1, e2, e3⟩ := h
    exact ⟨a, vs, e1, e2, RVs.narrow ds vs e3 (by unfold D.lt at q; exact q)⟩
  | .ld ks ds, _, h, q => by
    unfold RV at *
    obtain ⟨a, o, vs, e1, e2, e3, e4⟩ := h
    exact ⟨a, o, vs, e1, e2, e3, RVs.narrow ds _ e4 (by unfold D.lt at q; exact (and2 q).2)⟩
  | .obj i, _, h, q => by
    unfold RV at *
    obtain ⟨a, e1, e2⟩ := h
    exact ⟨a, e1, take_get e2 (by unfold D.lt at q; exact of_decide_eq_true q)⟩
theorem RVs.narrow : ∀ (ds : List Nv.D) (vs : List V), RVs K ρ H ds vs → D.ltAll b ds = true → RVs K (ρ.take b) H ds vs
  | [], _, h, _ => by unfold RVs at *; exact h
  | d :: ds, _, h, q => by
    unfold RVs at *
    obtain ⟨v, r, e1, e2, e3⟩ := h
    unfold D.ltAll at q
    obtain ⟨q1, q2⟩ := and2 q
    exact ⟨v, r, e1, RV.narrow d v e2 q1, RVs.narrow ds r e3 q2⟩
end
theorem ROb.narrow {a : Addr} {o : Ob} (h : ROb K ρ H a o) (q : o.lt b = true) : ROb K (ρ.take b) H a o := by
  cases o with
  | lst xs => obtain ⟨vs, h1, h2⟩ := h; exact ⟨vs, h1, RVs.narrow xs vs h2 q⟩
  | dct kvs =>
    rcases h with ⟨vs, h1, h2, h3⟩ | ⟨xs, vs, h⟩ | ⟨xs, vs, h⟩
    · exact .inl ⟨vs, h1, h2, RVs.narrow _ _ h3 (and2 q).2⟩
    · exact .inr (.inl ⟨xs, vs, h.at_, h.ne, h.few, h.sys, h.nd, h.ks, RVs.narrow _ _ h.rk (and2 q).1, h.vl, RVs.narrow _ _ h.rv (and2 q).2⟩)
    · exact .inr (.inr ⟨xs, vs, h.at_, h.ne, h.few, h.sys, h.ks, h.vl, RVs.narrow _ _ h.rv (and2 q).2⟩)
theorem RS.narrow {s : Sto} (h : RS K ρ H s) (q : (s.take b).all (Ob.lt b) = true) : RS K (ρ.take b) H (s.take b) := by
  refine ⟨by rw [List.length_take, List.length_take, h.len], h.nd.sublist (List.take_sublist _ _), fun i o a h1 h2 => ?_⟩
  have hm : o ∈ s.take b := List.mem_of_getElem? h1
  have hi : i < b := by
    have := (List.getElem?_eq_some_iff.mp h1).1
    rw [List.length_take] at this
    omega
  rw [List.getElem?_take_of_lt hi] at h1 h2
  exact (h.ob i o a h1 h2).narrow (List.all_eq_true.mp q o hm)
theorem Ext.narrow {ρ0 : List Addr} {H0 : Hp} (e : Ext K ρ0 H0 ρ H) (hb : ρ0.length = b) : Ext K ρ0 H0 (ρ.take b) H where
  pre := fun i a h => take_get (e.pre i a h) (by rw [← hb]; exact (List.getElem?_eq_some_iff.mp h).1)
  tup := e.tup
  fz := e.fz
  oth := e.oth
  new := fun a h => e.new a (List.mem_of_mem_take h)
  bk := e.bk
/-- what a call leaves -/
theorem fin_ok {W : Wx} {ρ0 : List Addr} {H0 : Hp} {s : Sto} {r : RD} {v : V} {Q : VK} (hb : ρ0.length = b) (e : Ext K ρ0 H0 ρ H) (rs : RS K ρ H s) (rr : RR K H0 ρ H r v) (h : Post K W (rRR K) ρ0 H0 Q (fin b r s)) : Q v H := by
  unfold fin at h
  split at h
  · rename_i c1
    have rn := rs.narrow c1
    split at h
    · rename_i xs
      split at h
      · rename_i c2
        obtain ⟨a, vs, e1, e2, e3, e4, e5⟩ := rr
        exact h (ρ.take b) H v (e.narrow hb) rn ⟨a, vs, e1, e2, RVs.narrow xs vs e3 c2, fun z => e4 (List.mem_of_mem_take z), e5⟩
      · exact h ρ H v e rs rr
    · rename_i kvs
      split at h
      · rename_i c2
        obtain ⟨a, e1, e2, e4, e5⟩ := rr
        exact h (ρ.take b) H v (e.narrow hb) rn ⟨a, e1, e2.narrow c2, fun z => e4 (List.mem_of_mem_take z), e5⟩
      · exact h ρ H v e rs rr
    · rename_i d
      have r : RV K ρ H d v := rr
      split at h
      · rename_i c2
        exact h (ρ.take b) H v (e.narrow hb) rn (RV.narrow d v r c2)
      · rename_i c2
        split at h
        · rename_i i
          have hge : b ≤ i := by
            have : ¬ i < b := fun z => c2 (by unfold D.lt; exact decide_eq_true z)
            omega
          unfold RV at r
          obtain ⟨a, rfl, ha⟩ := r
          have hlen : b ≤ ρ.length := by
            have := (List.getElem?_eq_some_iff.mp ha).1
            omega
          have htl : (ρ.take b).length = b := by rw [List.length_take]; omega
          have hna : a ∉ ρ.take b := fun z => by
            obtain ⟨j, hj⟩ := List.mem_iff_getElem?.mp z
            have hjb : j < b := by
              have := (List.getElem?_eq_some_iff.mp hj).1
              omega
            rw [List.getElem?_take_of_lt hjb] at hj
            have := nodup_ix_ rs.nd hj ha
            omega
          have ha0 : H0 a = none := by
            rcases e.new a (List.mem_of_getElem? ha) with z | z
            · obtain ⟨j, hj⟩ := List.mem_iff_getElem?.mp z
              have hjb : j < b := by
                have := (List.getElem?_eq_some_iff.mp hj).1
                omega
              have := nodup_ix_ rs.nd (e.pre j a hj) ha
              omega
            · exact z
          split at h
          · rename_i xs ho
            split at h
            · rename_i c3
              obtain ⟨vs, q1, q2⟩ := rs.ob i _ a ho ha
              exact h (ρ.take b) H _ (e.narrow hb) rn ⟨a, vs, rfl, q1, RVs.narrow xs vs q2 c3, hna, ha0⟩
            · exact h ρ H _ e rs rr
          · rename_i kvs ho
            split at h
            · rename_i c3
              exact h (ρ.take b) H _ (e.narrow hb) rn ⟨a, rfl, (rs.ob i _ a ho ha).narrow (b := b) c3, hna, ha0⟩
            · exact h ρ H _ e rs rr
          · exact h ρ H _ e rs rr
        · exact h ρ H v e rs rr
  · exact h ρ H v e rs rr
end
/-- what stands of a function of the table behind the top -/
structure FnTop (K : PySem.W.Frag) (mg : Str → Option Value) (T : Tab) (F : Fn) : Prop where
  ex : ∃ (f : Addr) (fd : FuncData) (st : Stmt), mg F.name = some (.ref f) ∧ Fun K (T.dn F.name) (T.dn F.name) st f fd ∧ FnScope F.ns F.ps (defScope st) ∧ (∀ us : List Value, us.length = F.ps.length → bindArgs fd ⟨us, []⟩ = pure (F.ps.zip us)) ∧ (ckS T F.ns F.body).l (defScope st) (defBody st) = true
section
variable {P : Program} {w : World} {K : PySem.W.Frag} {mg : Str → Option Value} {base : Heap} {T : Tab}
theorem start_rl {ρ : List Addr} {H : Hp} {ds : List Nv.D} {vs : List V} {N : List Str} (r : RVs ⟨K, w⟩ ρ H ds vs) : RL ⟨K, w⟩ ρ H (L2.start N vs) (ds.map some ++ List.replicate (N.length - ds.length) none) := by
  have hl := r.length
  unfold L2.start
  refine ⟨by rw [List.length_append, List.length_append, List.length_map, List.length_map, List.length_replicate, List.length_replicate, hl], fun i d q => ?_⟩
  by_cases hi : i < ds.length
  · rw [List.getElem?_append_left (by rw [List.length_map]; exact hi), List.getElem?_map] at q
    obtain ⟨x, h1, h2⟩ := Option.map_eq_some_iff.mp q
    cases h2
    obtain ⟨v, h3, h4⟩ := r.get h1
    exact ⟨v, by rw [List.getElem?_append_left (by rw [List.length_map, hl]; exact hi), List.getElem?_map, h3]; rfl, h4⟩
  · rw [List.getElem?_append_right (by rw [List.length_map]; omega), List.getElem?_replicate] at q
    split at q <;> cases q
theorem stores_fn {N : List Str} {qual : Str} {sc : Scope} {f : Addr} {cd : Value} {A : Around} {outer : List Env} {s : Shared} {H : Hp} {E : XK} : Stores sc (cxOf (L2.CX P w) P w K mg base N qual sc f cd A outer s H E) := by
  intro x hx
  unfold locB at hx
  split at hx
  · rename_i q; exact ⟨.inl q, .inl rfl⟩
  · rename_i q; exact ⟨.inr q, .inl rfl⟩
  · cases hx
/-- what stands of a table's names behind the top -/
structure TopOk (K : PySem.W.Frag) (w : World) (mg : Str → Option Value) (T : Tab) : Prop where
  hb : ∀ x : Str, T.blts.contains x = true → mg x = none
  hc : ∀ (j : Nat) (x : Str) (d : Nv.D), T.cons[j]? = some (x, d) → ∃ u v, mg x = some u ∧ RelV v u ∧ ∀ (w : World) ρ H, RV ⟨K, w⟩ ρ H d v
  exc : ∀ n : Str, T.excs.contains n = true → ∃ C, ExcF K mg n C
  exm : ∀ n x : Str, T.exm.contains (n, x) = true → ∃ C D, mg n = some (.ref C) ∧ mg x = some (.ref D) ∧ PySem.W.exmOne K (.ref C) (.ref D) = some true ∧ ExcF K mg n C
  isx : ∀ (n x : Str) (b : Bool), T.isx.contains (n, x, b) = true → IsF K mg n x b
  kds : ∀ (j : Nat) (x : Str) (kvs : List (Str × Int)), T.kds[j]? = some (x, kvs) → KdF K w mg x kvs
/-- a body by the interpreter's run -/
theorem fn_body {n i : Nat} {F : Fn} {st : Stmt} {dn : Str} {f : Addr} {cdv : Value} {A : Around} {outer : List Env} {s : Shared} {H : Hp} {vs : List V} {Q : VK} {E : XK}
    (ih : ∀ (i : Nat) (F : Fn), T.fns[i]? = some F → ∃ f fd, mg F.name = some (.ref f) ∧ PySem.W.keepIn K (.ref f) = true ∧ Binds K fd F.ps [] ∧ FnOk P w K mg base (L2.CX P w) n f fd F.ps (spOf ⟨K, w⟩ mg (callN T n i)))
    (O : TopOk K w mg T)
    (h3 : FnScope F.ns F.ps (defScope st)) (h5 : (ckS T F.ns F.body).l (defScope st) (defBody st) = true) (h : T.fns[i]? = some F) (hr : Room n (A.deeper (envOfC dn (defScope st) s.heap.objs.size f cdv))) (q : spOf ⟨K, w⟩ mg (callN T (n + 1) i) vs H Q E) :
    ∃ t, PSs (cxOf (L2.CX P w) P w K mg base F.ns dn (defScope st) f cdv A outer s H E) (defBody st) t ∧ t { nx := fun _ H' => Q .non H', rt := Q } (L2.start F.ns vs) H := by
  obtain ⟨ρ, st', ds, rs, rv, hp⟩ := q
  have e : callN T (n + 1) i ds st' = runFn (callN T n) T.gc F ds st' := by unfold callN; rw [h]
  rw [e] at hp
  unfold runFn at hp
  obtain ⟨hl, hp⟩ := post_ite hp
  have good : GoodS T (callN T n) n F.ns (defScope st) (cxOf (L2.CX P w) P w K mg base F.ns dn (defScope st) f cdv A outer s H E) (fun cls d _ H => E cls d H) :=
    ⟨⟨takes_of rfl rfl rfl rfl, O.exc, O.exm, O.isx, rfl, h3.nd, rfl, rfl, hr, O.hb, fun j x d h => (O.hc j x d h).imp fun u hu => hu.imp fun v hv => ⟨hv.1, hv.2.1, hv.2.2 w⟩, O.kds, ih⟩, stores_fn, passes_of rfl, h3.kind, rfl, rfl⟩
  refine ⟨_, (snd_st F.body).2 _ _ _ _ good (.inl fun _ _ _ _ _ h => h) h5, ρ, _, st', rs, start_rl rv, ?_⟩
  cases hrun : sden (callN T n) T.gc F.body (ds.map some ++ List.replicate (F.ns.length - ds.length) none) st' with
  | no => rw [hrun] at hp; exact hp
  | ex x s1 => rw [hrun] at hp; exact hp
  | ok a s1 =>
    rw [hrun] at hp
    obtain ⟨fl, l⟩ := a
    cases fl with
    | nx => exact fun ρ' H' σ' ex rs' rl' => fin_ok rs.len ex rs' (r := .d .non) (show RV ⟨K, w⟩ ρ' H' Nv.D.non .non from rv_non.mpr rfl) hp
    | rt d => exact fun ρ' H' v ex rs' rv' => fin_ok rs.len ex rs' rv' hp
    | bk => exact hp.elim
    | ct => exact hp.elim
/-- ALL FUNCTIONS, at every depth of calls -/
theorem fns_ok (hE : ∀ (i : Nat) (F : Fn), T.fns[i]? = some F → FnTop K mg T F) (O : TopOk K w mg T) :
    ∀ (n i : Nat) (F : Fn), T.fns[i]? = some F → ∃ f fd, mg F.name = some (.ref f) ∧ PySem.W.keepIn K (.ref f) = true ∧ Binds K fd F.ps [] ∧ FnOk P w K mg base (L2.CX P w) n f fd F.ps (spOf ⟨K, w⟩ mg (callN T n i))
  | 0, i, F, h => by
    obtain ⟨f, fd, st, h1, h2, h3, h4, h5⟩ := (hE i F h).ex
    have no : ∀ vs H Q E, ¬ spOf ⟨K, w⟩ mg (callN T 0 i) vs H Q E := fun vs H Q E h => by
      obtain ⟨_, _, _, _, _, q⟩ := h
      exact q
    exact ⟨f, fd, h1, h2.kp, .all h4, ⟨fun vs H Q E h => absurd h (no vs H Q E), fun A outer s H args us vs Q E _ _ _ _ h => absurd h (no vs H Q E)⟩⟩
  | n + 1, i, F, h => by
    have ih := fns_ok hE O n
    obtain ⟨f, fd, st, h1, h2, h3, h4, h5⟩ := (hE i F h).ex
    refine ⟨f, fd, h1, h2.kp, .all h4, h2.okX h3 (fun vs H Q E q => ?_) fun cdv A outer s H vs Q E hr q => ?_⟩
    · obtain ⟨ρ, st', ds, rs, rv, hp⟩ := q
      have e : callN T (n + 1) i ds st' = runFn (callN T n) T.gc F ds st' := by unfold callN; rw [h]
      rw [e] at hp
      unfold runFn at hp
      rw [rv.length]
      exact (post_ite hp).1
    · exact fn_body (fun i F h => ih i F h) O h3 h5 h hr q
/-- what law(script) promises -/
def spLaw (K : PySem.W.Frag) : Sp := fun vs H Q _ => ∃ (a : Addr) (ns : List Int), vs = [.ref a] ∧ SqF K H a (ns.map V.int) ∧ ns.length ≤ 63 ∧ ∀ H', Q (.bl true) H'
theorem rvs_ints {ρ : List Addr} {H : Hp} : ∀ ns : List Int, RVs ⟨K, w⟩ ρ H (ns.map Nv.D.int) (ns.map V.int)
  | [] => .nil_
  | n :: r => .cons_ (rv_int.mpr rfl) (rvs_ints r)
theorem law_ok {n i : Nat} {f : Addr} {fd : FuncData} {x : Str} (h : FnOk P w K mg base (L2.CX P w) n f fd [x] (spOf ⟨K, w⟩ mg (callN T n i))) (hlaw : ∀ ns : List Int, ns.length ≤ 63 → ∃ s, callN T n i [.lf (ns.map Nv.D.int)] [] = .ok (.d (.bl true)) s) :
    FnOk P w K mg base (L2.CX P w) n f fd [x] (spLaw K) := h.imp fun vs H Q E ⟨a, ns, e, hS, hl, q⟩ => by
  subst e
  obtain ⟨s, hs⟩ := hlaw ns hl
  refine ⟨[], [], [.lf (ns.map Nv.D.int)], ⟨rfl, List.nodup_nil, fun i o a h1 h2 => by simp at h1⟩, .one ?_, ?_⟩
  · unfold RV
    exact ⟨a, _, rfl, hS, rvs_ints ns⟩
  · rw [hs]
    intro ρ' H' v ex rs rv
    have rv : RV ⟨K, w⟩ ρ' H' (Nv.D.bl true) v := rv
    rw [rv_bl.mp rv]
    exact q H'
theorem sqf_only {H : Hp} {a : Addr} {xs : List V} (hO : Only H) (h : SqL K H a xs) : SqF K H a xs := by
  rcases h with (h | ⟨o, h⟩) | h
  · rcases hO a with z | ⟨o, ys, z⟩
    · rw [h] at z; cases z
    · rw [h] at z; cases z
  · exact .inl ⟨o, h⟩
  · exact .inr h
end
/-! ### the end: from the facts of the head -/
theorem fn_top {K : PySem.W.Frag} {h : Heap} {mg : Str → Option Value} {T : Tab} {F : Fn} (X : K.In h) (G : h.Ns mainGlobals mg) {f : Addr} {st : Stmt} {od an : Option Addr} {sl : Array (Option Value)} {oc kV dc pm cd ct : Value}
    {nm : Str} (hn : T.dn F.name = nm) (a : PySem.W.nsIn K mainGlobals F.name = some (some (.ref f))) (l : K.lookup f = some ⟨oc, od, .func (PySem.W.fnOf nm nm (defArgs st) (defBody st) (defScope st) .none kV dc pm an cd ct), sl⟩) (c : PySem.W.codeIn K cd nm = true) (k : PySem.W.keepIn K (.ref f) = true)
    (S : FnScope F.ns F.ps (defScope st)) (hb : ∀ (kV doc pm : Value) (an : Option Addr) (cdv ct : Value) (us : List Value), us.length = F.ps.length → bindArgs (PySem.W.fnOf nm nm (defArgs st) (defBody st) (defScope st) .none kV doc pm an cdv ct) ⟨us, []⟩ = pure (F.ps.zip us))
    (hc : (ckS T F.ns F.body).l (defScope st) (defBody st) = true) : FnTop K mg T F := by
  subst hn
  have Fu := fun_mk l c k
  exact ⟨⟨f, _, st, PySem.W.mg_of X G a, Fu, S, fun us hl => hb kV dc pm an cd ct us hl, hc⟩⟩
theorem scope_of {N P : List Str} {sc : Scope} (h1 : sc.kind = .function) (h2 : sc.isCoroutine = false) (h3 : sc.isGenerator = false) (h4 : N.Nodup) (h5 : N.take P.length = P) (h6 : ∀ x ∈ P, sc.names.lookup x = some .local ∨ sc.names.lookup x = some .cell) (h7 : ∀ y ∈ sc.names, y.2 ≠ .free) : FnScope N P sc := ⟨h1, h2, h3, h4, h5, h6, h7⟩
/-- a constant of the top: a text, a tuple of such .. -/
theorem con_str {K : PySem.W.Frag} {h : Heap} {mg : Str → Option Value} (X : K.In h) (G : h.Ns mainGlobals mg) {x z : Str} {t : Tok} (a : PySem.W.nsIn K mainGlobals x = some (some (.str z t))) : ∃ u v, mg x = some u ∧ RelV v u ∧ ∀ (w : World) ρ H, RV ⟨K, w⟩ ρ H (.str z) v :=
  ⟨_, .str z, PySem.W.mg_of X G a, ⟨t, rfl⟩, fun _ ρ H => rv_str.mpr rfl⟩
theorem con_int {K : PySem.W.Frag} {h : Heap} {mg : Str → Option Value} (X : K.In h) (G : h.Ns mainGlobals mg) {x : Str} {z : Int} {t : Tok} (a : PySem.W.nsIn K mainGlobals x = some (some (.int z t))) : ∃ u v, mg x = some u ∧ RelV v u ∧ ∀ (w : World) ρ H, RV ⟨K, w⟩ ρ H (.int z) v :=
  ⟨_, .int z, PySem.W.mg_of X G a, ⟨t, rfl⟩, fun _ ρ H => rv_int.mpr rfl⟩
theorem con_strs {K : PySem.W.Frag} {h : Heap} {mg : Str → Option Value} (X : K.In h) (G : h.Ns mainGlobals mg) {x : Str} {a : Addr} {o : Obj} {its : Array Value} {n : Nat} {zs : List Str} (g : PySem.W.nsIn K mainGlobals x = some (some (.ref a))) (t : K.lookup a = some o) (hc : o.cls = .type "tuple") (hd : o.data = .seq its n)
    (hz : its.size ≤ sizeLine) (hv : Vals (zs.map V.str) its.toList) : ∃ u v, mg x = some u ∧ RelV v u ∧ ∀ (w : World) ρ H, RV ⟨K, w⟩ ρ H (.tup (zs.map D.str)) v :=
  ⟨_, .ref a, PySem.W.mg_of X G g, rfl, fun _ ρ H => by
    unfold RV
    exact ⟨a, zs.map V.str, rfl, .inr ⟨o, its, n, t, hc, hd, hz, hv⟩, rvs_str zs⟩⟩
def keyStr (e : DictEntry) : Option Str := match e.key with
  | .str x _ => some x
  | _ => none
theorem keys_miss {z : Str} : ∀ {es : List DictEntry} {ks : List Str}, es.map keyStr = ks.map some → z ∉ ks → es.find? (·.key.isStr z) = none ∧ es.any (·.refKey) = false
  | [], _, _, _ => ⟨rfl, rfl⟩
  | e :: r, [], h, _ => by cases h
  | e :: r, k :: ks, h, hz => by
    rw [List.map_cons, List.map_cons] at h
    injection h with h1 h2
    obtain ⟨i1, i2⟩ := keys_miss h2 fun q => hz (.tail _ q)
    have ne : z ≠ k := fun q => hz (by rw [q]; exact .head _)
    unfold keyStr at h1
    split at h1
    · rename_i x t q
      cases h1
      refine ⟨?_, ?_⟩
      · rw [List.find?_cons, i1]
        have : e.key.isStr z = false := by
          rw [q]
          show (k == z) = false
          simp [Ne.symm ne]
        rw [this]
      · rw [List.any_cons, i2]
        unfold DictEntry.refKey
        rw [q]; rfl
    · cases h1
/-- a dict of the top, by what its entries are -/
theorem kd_mk {K : PySem.W.Frag} {w : World} {h : Heap} {mg : Str → Option Value} (X : K.In h) (G : h.Ns mainGlobals mg) {x : Str} {d : Addr} {es : Array DictEntry} {n : Nat} {kvs : List (Str × Int)} (a : PySem.W.nsIn K mainGlobals x = some (some (.ref d)))
    (l : K.lookup d = some ⟨.type "dict", none, .dict es n, #[]⟩) (q : PySem.W.KeysLit w.params es.toList) (low : (d == sysModules) = false) (ks : es.toList.map keyStr = (kvs.map (·.1)).map some)
    (vs : ∀ p ∈ kvs, ∃ t, PySem.W.nsIn K d p.1 = some (some (.int p.2 t))) : KdF K w mg x kvs :=
  ⟨d, es, n, PySem.W.mg_of X G a, ⟨l, q, low⟩, fun z => by
    cases e : kvs.lookup z with
    | some i =>
      have m : (z, i) ∈ kvs := by
        clear vs ks
        induction kvs with
        | nil => cases e
        | cons p r ih =>
          obtain ⟨k, v⟩ := p
          rw [List.lookup_cons] at e
          split at e
          · rename_i hz
            cases e
            rw [beq_iff_eq.mp hz]
            exact .head _
          · exact .tail _ (ih e)
      exact vs _ m
    | none =>
      have m : z ∉ kvs.map (·.1) := by
        clear vs ks
        induction kvs with
        | nil => simp
        | cons p r ih =>
          obtain ⟨k, v⟩ := p
          rw [List.lookup_cons] at e
          split at e
          · cases e
          · rename_i hz
            rw [List.map_cons, List.mem_cons, not_or]
            exact ⟨fun y => by rw [y] at hz; simp at hz, ih e⟩
      obtain ⟨i1, i2⟩ := keys_miss ks m
      show PySem.W.nsIn K d z = some none
      unfold PySem.W.nsIn
      rw [l]
      simp only
      rw [i1]
      simp only
      rw [i2]
      rfl⟩
/-- the facts of a law's text: its functions, the built-ins that no name hides, its constants -/
structure Facts (K : PySem.W.Frag) (w : World) (mg : Str → Option Value) (T : Tab) : Prop where
  fns : ∀ F, F ∈ T.fns → FnTop K mg T F
  blt : ∀ x, x ∈ T.blts → mg x = none
  con : ∀ p, p ∈ T.cons → ∃ u v, mg p.1 = some u ∧ RelV v u ∧ ∀ (w : World) ρ H, RV ⟨K, w⟩ ρ H p.2 v
  exc : ∀ n, n ∈ T.excs → ∃ C, ExcF K mg n C
  exm : ∀ p, p ∈ T.exm → ∃ C D, mg p.1 = some (.ref C) ∧ mg p.2 = some (.ref D) ∧ PySem.W.exmOne K (.ref C) (.ref D) = some true ∧ ExcF K mg p.1 C
  isx : ∀ p, p ∈ T.isx → IsF K mg p.1 p.2.1 p.2.2
  kds : ∀ p, p ∈ T.kds → KdF K w mg p.1 p.2
theorem Facts.top {K : PySem.W.Frag} {w : World} {mg : Str → Option Value} {T : Tab} (E : Facts K w mg T) : TopOk K w mg T :=
  ⟨fun x h => E.blt x (by simpa using h), fun j x d h => E.con (x, d) (List.mem_of_getElem? h), fun n h => E.exc n (by simpa using h), fun n x h => E.exm (n, x) (by simpa using h), fun n x b h => E.isx (n, x, b) (by simpa using h), fun j x kvs h => E.kds (x, kvs) (List.mem_of_getElem? h)⟩
/-- a law lets nothing out -/
theorem cx_no {P : Program} {w : World} {H : Hp} {s : Shared} {e : Value} {s' : Shared} (h : L2.CX P w [] H s (fun _ _ _ => False) e s') : False := by
  obtain ⟨_, _, _, _, _, _, _, _, _, _, _, _, z⟩ := h
  exact z
/-- the facts of a class of exceptions, a ValueError's -/
theorem exc_mk {K : PySem.W.Frag} {h : Heap} {mg : Str → Option Value} (X : K.In h) (G : h.Ns mainGlobals mg) {n : Str} {C : Addr} (a : PySem.W.nsIn K mainGlobals n = some (some (.ref C))) (k : PySem.W.keepIn K (.ref C) = true)
    (q : PySem.W.excIn K C [.type "ValueError", .type "Exception", .type "BaseException", .type "object"] "ValueError.__new__" = true) (b1 : PySem.W.subIn K (.ref C) (.type "BaseException") = some true) (b2 : PySem.W.typeIn K (.ref C) = some (.type "type"))
    (c1 : PySem.W.findIn K (.ref C) "__getattribute__" = some (some (.builtin "BaseException.__getattribute__"))) (c2 : PySem.W.findIn K (.ref C) "__getattr__" = some none) (c3 : PySem.W.hasDictIn K C = true)
    (c4 : PySem.W.findIn K (.ref C) "__class__" = some (some (.builtin "object.__class__"))) (c5 : PySem.W.specialIn K (.builtin "object.__class__") "__get__" = some (some (.builtin "getset_descriptor.__get__"))) (c6 : PySem.W.takesIn K (.builtin "object.__class__") = some true) (c7 : PySem.W.mroIn K C (.type "object") = some true) : ExcF K mg n C :=
  ⟨PySem.W.mg_of X G a, k, ⟨_, _, _, _, PySem.F.excBase_ValueError, q⟩, b1, b2, ⟨c1, c2, b1, c3, c4, c5, c6, c7⟩⟩
theorem exm_mk {K : PySem.W.Frag} {h : Heap} {mg : Str → Option Value} (X : K.In h) (G : h.Ns mainGlobals mg) {n x : Str} {C D : Addr} (E : ExcF K mg n C) (a : PySem.W.nsIn K mainGlobals x = some (some (.ref D)))
    (b1 : PySem.W.subIn K (.ref D) (.type "BaseException") = some true) (b2 : PySem.W.hasDictIn K D = true) (b3 : PySem.W.typeIn K (.ref D) = some (.type "type")) (b4 : PySem.W.subIn K (.ref C) (.ref D) = some true) :
    ∃ C D, mg n = some (.ref C) ∧ mg x = some (.ref D) ∧ PySem.W.exmOne K (.ref C) (.ref D) = some true ∧ ExcF K mg n C :=
  ⟨C, D, E.mg_, PySem.W.mg_of X G a, PySem.W.exm_ref b1 b2 b3 b4, E⟩
theorem rel_ref {D : Addr} : RelV (.ref D) (.ref D) := rfl
theorem is_same {K : PySem.W.Frag} {mg : Str → Option Value} {n : Str} {C : Addr} (E : ExcF K mg n C) : IsF K mg n n true :=
  ⟨C, .ref C, .ref C, E.mg_, rfl, fun u r => r, .inl E.mg_, by unfold PySem.W.kitOne; rw [if_pos (by simp)]⟩
theorem is_own {K : PySem.W.Frag} {h : Heap} {mg : Str → Option Value} (X : K.In h) (G : h.Ns mainGlobals mg) {n x : Str} {C D : Addr} {b : Bool} (E : ExcF K mg n C) (a : PySem.W.nsIn K mainGlobals x = some (some (.ref D)))
    (ne : (Value.ref C == Value.ref D) = false) (b2 : PySem.W.hasDictIn K D = true) (b3 : PySem.W.typeIn K (.ref D) = some (.type "type")) (b4 : PySem.W.subIn K (.ref C) (.ref D) = some b) : IsF K mg n x b :=
  ⟨C, .ref D, .ref D, E.mg_, rfl, fun u r => r, .inl (PySem.W.mg_of X G a), by
    obtain ⟨cd, hc, _⟩ := PySem.W.any_some b2
    unfold PySem.W.kitOne PySem.W.kitCls
    rw [ne, if_neg Bool.false_ne_true]
    have e2 : ((PySem.W.clsIn K D).isSome && PySem.W.typeIn K (.ref D) == some (.type "type")) = true := by rw [hc, b3] <;> rfl
    show (if ((PySem.W.clsIn K D).isSome && PySem.W.typeIn K (.ref D) == some (.type "type")) = true then PySem.W.subIn K (.ref C) (.ref D) else none) = _
    rw [if_pos e2]
    exact b4⟩
theorem is_blt {K : PySem.W.Frag} {h : Heap} {mg : Str → Option Value} (X : K.In h) (G : h.Ns mainGlobals mg) {n x : Str} {C : Addr} {t : String} {b : Bool} (E : ExcF K mg n C) (a : PySem.W.nsIn K mainGlobals x = some none) (hv : bootBuiltins x = some (.type t)) (hn : x ≠ "__name__")
    (hk : PySem.W.kitMeta t = true) (b4 : PySem.W.subIn K (.ref C) (.type t) = some b) : IsF K mg n x b :=
  ⟨C, .type t, .ty t, E.mg_, rfl, fun u r => r, .inr ⟨PySem.W.mg_none_of X G a, hv, hn⟩, by
    unfold PySem.W.kitOne PySem.W.kitCls
    rw [if_neg (by simp)]
    show (if PySem.W.kitMeta t = true then _ else none) = _
    rw [if_pos hk]
    exact b4⟩
theorem Facts.levels {P : Program} {w : World} {K : PySem.W.Frag} {mg : Str → Option Value} {T : Tab} {base : Heap} (E : Facts K w mg T) (n i : Nat) (F : Fn) (h : T.fns[i]? = some F) :
    ∃ f fd, mg F.name = some (.ref f) ∧ PySem.W.keepIn K (.ref f) = true ∧ Binds K fd F.ps [] ∧ FnOk P w K mg base (L2.CX P w) n f fd F.ps (spOf ⟨K, w⟩ mg (callN T n i)) :=
  fns_ok (fun i F h => E.fns F (List.mem_of_getElem? h)) E.top n i F h
theorem law_end {P : Program} {w : World} {K : PySem.W.Frag} {mg : Str → Option Value} {T : Tab} {n i : Nat} {fa : Addr} {x nm : Str} {F : Fn} (E : Facts K w mg T) (hi : T.fns[i]? = some F) (hps : F.ps = [x]) (hnm : F.name = nm) (hfa : mg nm = some (.ref fa))
    (hlaw : ∀ ns : List Int, ns.length ≤ 63 → ∃ s, callN T (n + 1) i [.lf (ns.map Nv.D.int)] [] = .ok (.d (.bl true)) s) :
    ∃ fd : FuncData, (∀ (s : Shared) (v : Value), BindsTo s fd ⟨[v], []⟩ [(x, v)]) ∧ ∀ base : Heap, K.In base → base.Ns mainGlobals mg → FnOk P w K mg base (L2.CX P w) (n + 1) fa fd [x] (spLaw K) := by
  obtain ⟨f, fd, st, h1, h2, h3, h4, h5⟩ := (E.fns F (List.mem_of_getElem? hi)).ex
  rw [hnm, hfa] at h1
  cases h1
  have hbd : ∀ v : Value, bindArgs fd ⟨[v], []⟩ = pure [(x, v)] := fun v => by
    have := h4 [v] (by rw [hps]; rfl)
    rw [hps] at this
    exact this
  refine ⟨fd, fun s v => .of_eq (hbd v), fun base _ _ => law_ok (i := i) ?_ hlaw⟩
  rw [← hps]
  -- the same def at this depth
  refine h2.okX h3 (fun vs H Q E q => ?_) fun cdv A outer s H vs Q E' hr q => ?_
  · obtain ⟨ρ, st', ds, rs, rv, hp⟩ := q
    have e : callN T (n + 1) i ds st' = runFn (callN T n) T.gc F ds st' := by unfold callN; rw [hi]
    rw [e] at hp
    unfold runFn at hp
    rw [rv.length]
    exact (post_ite hp).1
  · exact fn_body (fun i F h => E.levels n i F h) E.top h3 h5 hi hr q
end Nv

set_option Elab.async false
set_option linter.all false
set_option maxRecDepth 100000
set_option autoImplicit false
/-! NvSim: the interpreter's steps as rules for simp: each thing by what comes behind it, so that simp goes on from the root. -/
namespace Nv
open PySem PySem.Spec PyProof.Rows L2
noncomputable section
variable {α β : Type}
def ev (cf : Nat → List D → Sto → Res RD) (g : Nat → Option D) (e : Ex) (l : Loc) (s : Sto) (k : RD → Sto → Res β) : Res β := ((den cf g e).r l s).bind k
def evv (cf : Nat → List D → Sto → Res RD) (g : Nat → Option D) (e : Ex) (l : Loc) (s : Sto) (k : D → Sto → Res β) : Res β := ((den cf g e).v l s).bind k
def evb (cf : Nat → List D → Sto → Res RD) (g : Nat → Option D) (e : Ex) (l : Loc) (s : Sto) (k : Bool → Sto → Res β) : Res β := ((den cf g e).b l s).bind k
def evi (cf : Nat → List D → Sto → Res RD) (g : Nat → Option D) (e : Ex) (l : Loc) (s : Sto) (k : Its → Sto → Res β) : Res β := ((den cf g e).i l s).bind k
def evs (cf : Nat → List D → Sto → Res RD) (g : Nat → Option D) (e : Ex) (l : Loc) (s : Sto) (k : List D → Sto → Res β) : Res β := ((den cf g e).vs l s).bind k
def evo (cf : Nat → List D → Sto → Res RD) (g : Nat → Option D) (e : Ex) (l : Loc) (s : Sto) (k : Option Int → Sto → Res β) : Res β := (optI e.isNil (den cf g e).r l s).bind k
def sk (cf : Nat → List D → Sto → Res RD) (g : Nat → Option D) (b : Sm) (l : Loc) (s : Sto) (k : Fl → Loc → Sto → Res β) : Res β := (sden cf g b l s).bind fun fl s1 => k fl.1 fl.2 s1
def opK (o : Option α) (s : Sto) (k : α → Sto → Res β) : Res β := (ofO o s).bind k
def callK (cf : Nat → List D → Sto → Res RD) (f : Nat) (ds : List D) (s : Sto) (k : RD → Sto → Res β) : Res β := (cf f ds s).bind k
def resK (r : Res α) (k : α → Sto → Res β) : Res β := r.bind k
def okK (c : Prop) [Decidable c] (x : α) (s : Sto) (k : α → Sto → Res β) : Res β := (if c then (.ok x s : Res α) else .no).bind k
def alK (x : RD) (s : Sto) (k : D → Sto → Res β) : Res β := (match x with | .d x => .ok x s | .l xs => .ok (.obj s.length) (s ++ [.lst xs]) | .m kvs => .ok (.obj s.length) (s ++ [.dct kvs]) : Res D).bind k
def negK (x : RD) (s : Sto) (k : RD → Sto → Res β) : Res β := (match x with | .d (.int i) => .ok (.d (.int (-i))) s | _ => .no : Res RD).bind k
def ntK (x : RD) (s : Sto) (k : RD → Sto → Res β) : Res β := (match x with | .d (.bl b) => .ok (.d (.bl (!b))) s | _ => .no : Res RD).bind k
def andK (x : RD) (A : Res RD) (s : Sto) (k : RD → Sto → Res β) : Res β := (match x with | .d (.bl true) => A | .d (.bl false) => .ok (.d (.bl false)) s | _ => .no : Res RD).bind k
def orK (x : RD) (A : Res RD) (s : Sto) (k : RD → Sto → Res β) : Res β := (match x with | .d (.bl false) => A | .d (.bl true) => .ok (.d (.bl true)) s | _ => .no : Res RD).bind k
def iteK (t : Bool) (A B : Res α) (k : α → Sto → Res β) : Res β := (if t = true then A else B).bind k
def inK (y : RD) (s : Sto) (k : Option Int → Sto → Res β) : Res β := (match y with | .d (.int i) => .ok (some i) s | _ => .no : Res (Option Int)).bind k
def dgK (cf : Nat → List D → Sto → Res RD) (g : Nat → Option D) (a b : Ex) (l : Loc) (o : RD) (s1 : Sto) (k : RD → Sto → Res β) : Res β :=
  (if dgOk s1 o = true then ((den cf g a).r l s1).bind fun q s2 => ((den cf g b).v l s2).bind fun x s3 => ofO (getR s3 o q (.d x)) s3 else .no).bind k
def m1K (cf : Nat → List D → Sto → Res RD) (g : Nat → Option D) (m : M1) (a : Ex) (l : Loc) (x : D) (s1 : Sto) (k : RD → Sto → Res β) : Res β :=
  (if isLstB s1 x = true then (if m = .append then ((den cf g a).v l s1).bind fun y s2 => m1R m x (.d y) s2 else ((den cf g a).r l s1).bind fun y s2 => m1R m x y s2) else .no).bind k
noncomputable def cpK (tg : Tg) (src : Option (Nat × List D)) (c : M Bool) (e : M D) (l : Loc) (ds acc : List D) (s : Sto) (k : List D → Sto → Res β) : Res β := (cpLoop tg src c e l ds acc s).bind k
noncomputable def forK (tg : Tg) (src : Option (Nat × List D)) (b : SM) (ds : List D) (l : Loc) (s : Sto) (k : Fl → Loc → Sto → Res β) : Res β := (forLoop tg src b ds l s).bind fun fl s1 => k fl.1 fl.2 s1
def whK (c : M Bool) (b : SM) (n : Nat) (l : Loc) (s : Sto) (k : Fl → Loc → Sto → Res β) : Res β := (whLoop c b n l s).bind fun fl s1 => k fl.1 fl.2 s1
def btK (o : Option Loc) (f : Loc → Res β) : Res β := match o with
  | some l => f l
  | none => .no
def flK (f : Fl) (p q : Res β) : Res β := match f with
  | .nx => p
  | _ => q
end
section
variable {α β : Type} {cf : Nat → List D → Sto → Res RD} {g : Nat → Option D} {l : Loc} {s : Sto} {a b c o es elt it lo hi : Ex} {tg : Tg}
section
variable {k : RD → Sto → Res β}
@[simp ↓] theorem ev_int {z : Int} : ev cf g (.int z) l s k = k (.d (.int z)) s := rfl
@[simp ↓] theorem ev_str {z : Str} : ev cf g (.str z) l s k = k (.d (.str z)) s := rfl
@[simp ↓] theorem ev_bl {z : Bool} : ev cf g (.bl z) l s k = k (.d (.bl z)) s := rfl
@[simp ↓] theorem ev_non : ev cf g .non l s k = k (.d .non) s := rfl
@[simp ↓] theorem ev_gc {j : Nat} : ev cf g (.gc j) l s k = opK ((g j).map .d) s k := rfl
@[simp ↓] theorem ev_tup : ev cf g (.tup es) l s k = evs cf g es l s fun xs s1 => okK (xs.length ≤ sizeLine) (.d (.tup xs)) s1 k := bind_assoc _ _ _
@[simp ↓] theorem ev_lst : ev cf g (.lst es) l s k = evs cf g es l s fun xs s1 => okK (xs.length ≤ sizeLine) (.l xs) s1 k := bind_assoc _ _ _
@[simp ↓] theorem ev_bin {p : Bop} : ev cf g (.bin p a b) l s k = ev cf g a l s fun x s1 => ev cf g b l s1 fun y s2 => opK (binR p s2 x y) s2 k := by show Res.bind (Res.bind _ _) _ = _; simp only [bind_assoc]; rfl
@[simp ↓] theorem ev_neg : ev cf g (.neg a) l s k = ev cf g a l s fun x s1 => negK x s1 k := bind_assoc _ _ _
@[simp ↓] theorem ev_nt : ev cf g (.nt a) l s k = ev cf g a l s fun x s1 => ntK x s1 k := bind_assoc _ _ _
@[simp ↓] theorem ev_cmp {p : Cop} : ev cf g (.cmp p a b) l s k = ev cf g a l s fun x s1 => ev cf g b l s1 fun y s2 => opK ((cmpR p s2 x y).map fun t => .d (.bl t)) s2 k := by show Res.bind (Res.bind _ _) _ = _; simp only [bind_assoc]; rfl
def bif2 (t : Bool) (A : Res α) (x : α) (s : Sto) (k : α → Sto → Res β) : Res β := (if t = true then A else .ok x s).bind k
@[simp ↓] theorem bif2_eq {α β : Type} {t : Bool} {A : Res α} {x : α} {s : Sto} {k : α → Sto → Res β} : bif2 t A x s k = if t = true then A.bind k else k x s := by cases t <;> rfl
@[simp ↓] theorem ev_cmp2 {p q : Cop} : ev cf g (.cmp2 p q a b c) l s k = ev cf g a l s fun x s1 => ev cf g b l s1 fun y s2 => opK (cmpR p s2 x y) s2 fun t s2 => if t = true then ev cf g c l s2 fun z s3 => opK ((cmpR q s3 y z).map fun t => .d (.bl t)) s3 k else k (.d (.bl false)) s2 := by
  show Res.bind (Res.bind _ _) _ = _
  simp only [bind_assoc]
  unfold ev opK
  refine congrArg _ (funext fun x => funext fun s1 => congrArg _ (funext fun y => funext fun s2 => congrArg _ (funext fun t => funext fun s2 => ?_)))
  cases t
  · rfl
  · rw [if_pos rfl, if_pos rfl, bind_assoc]
@[simp ↓] theorem ev_kin {j : Nat} {kvs : List (Str × Int)} : ev cf g (.kin j kvs a) l s k = ev cf g a l s fun x s1 => opK ((kinR kvs x).map fun t => .d (.bl t)) s1 k := bind_assoc _ _ _
@[simp ↓] theorem ev_kix {j : Nat} {kvs : List (Str × Int)} : ev cf g (.kix j kvs a) l s k = ev cf g a l s fun x s1 => opK (kixR kvs x) s1 k := bind_assoc _ _ _
@[simp ↓] theorem ev_and : ev cf g (.and a b) l s k = ev cf g a l s fun x s1 => andK x ((den cf g b).r l s1) s1 k := bind_assoc _ _ _
@[simp ↓] theorem ev_or : ev cf g (.or a b) l s k = ev cf g a l s fun x s1 => orK x ((den cf g b).r l s1) s1 k := bind_assoc _ _ _
@[simp ↓] theorem ev_ife : ev cf g (.ife c a b) l s k = evb cf g c l s fun t s1 => iteK t ((den cf g a).r l s1) ((den cf g b).r l s1) k := bind_assoc _ _ _
@[simp ↓] theorem ev_call {f : Nat} : ev cf g (.call f es) l s k = evs cf g es l s fun ds s1 => callK cf f ds s1 k := bind_assoc _ _ _
@[simp ↓] theorem ev_frz : ev cf g (.frz a) l s k = ev cf g a l s fun x s1 => k (frzR x) s1 := bind_assoc _ _ _
@[simp] theorem frz_d {x : D} : frzR (.d x) = .d x := rfl
@[simp] theorem frz_l {xs : List D} : frzR (.l xs) = .d (.lf xs) := rfl
@[simp] theorem frz_m {kvs : List (D × D)} (h : dK kvs = true) : frzR (.m kvs) = .d (.ld (kvs.map (·.1)) (kvs.map (·.2))) := by show (if dK kvs = true then RD.d (.ld (kvs.map (·.1)) (kvs.map (·.2))) else .m kvs) = _; rw [if_pos h]
theorem frz_mN {kvs : List (D × D)} (h : dK kvs = false) : frzR (.m kvs) = .m kvs := by show (if dK kvs = true then RD.d (.ld (kvs.map (·.1)) (kvs.map (·.2))) else .m kvs) = _; rw [if_neg (by rw [h]; exact Bool.false_ne_true)]
@[simp ↓] theorem ev_b1 {f : B1} : ev cf g (.b1 f a) l s k = ev cf g a l s fun x s1 => opK (b1R f s1 x) s1 k := bind_assoc _ _ _
@[simp ↓] theorem ev_b2 {f : B2} : ev cf g (.b2 f a b) l s k = ev cf g a l s fun x s1 => ev cf g b l s1 fun y s2 => opK (b2R f s2 x y) s2 k := by show Res.bind (Res.bind _ _) _ = _; simp only [bind_assoc]; rfl
@[simp ↓] theorem ev_isin {t : Ty} : ev cf g (.isin a t) l s k = ev cf g a l s fun x s1 => opK ((isinR s1 t x).map fun b => .d (.bl b)) s1 k := bind_assoc _ _ _
@[simp ↓] theorem ev_fs {f : FS} : ev cf g (.fs f a) l s k = ev cf g a l s fun x s1 => opK (fsR f s1 x) s1 k := bind_assoc _ _ _
@[simp ↓] theorem ev_rev : ev cf g (.rev a) l s k = ev cf g a l s fun x s1 => opK ((asL s1 x).map fun xs => RD.l xs.reverse) s1 k := bind_assoc _ _ _
@[simp ↓] theorem ev_si : ev cf g (.si a) l s k = evv cf g a l s fun x s1 => opK (siR s1 x) s1 k := bind_assoc _ _ _
@[simp ↓] theorem ev_m0 {m : M0} : ev cf g (.m0 m o) l s k = evv cf g o l s fun x s1 => resK (m0R m x s1) k := bind_assoc _ _ _
@[simp ↓] theorem ev_m1 {m : M1} : ev cf g (.m1 m o a) l s k = evv cf g o l s fun x s1 => m1K cf g m a l x s1 k := bind_assoc _ _ _
@[simp ↓] theorem ev_ix : ev cf g (.ix a b) l s k = ev cf g a l s fun x s1 => ev cf g b l s1 fun y s2 => opK (ixR s2 x y) s2 k := by show Res.bind (Res.bind _ _) _ = _; simp only [bind_assoc]; rfl
@[simp ↓] theorem ev_sl : ev cf g (.sl a lo hi) l s k = ev cf g a l s fun x s1 => evo cf g lo l s1 fun i s2 => evo cf g hi l s2 fun j s3 => opK (slR s3 x i j) s3 k := by show Res.bind (Res.bind _ _) _ = _; simp only [bind_assoc]; rfl
@[simp ↓] theorem ev_cp {own : List Nat} : ev cf g (.cp elt tg it c own) l s k = evi cf g it l s fun its s1 => cpK tg its.src (den cf g c).b (den cf g elt).v (wipeL l own) its.ds [] s1 fun ys s2 => k (.l ys) s2 := by show Res.bind (Res.bind _ _) _ = _; simp only [bind_assoc]; rfl
theorem nox_bind {α : Type} {r : Res α} {k : α → Sto → Res β} {z : Res β} (h : r.bind k = z) (hn : ∀ x s, r ≠ .ex x s) : (noX r).bind k = z := by
  cases r with
  | ok a s => exact h
  | ex x s => exact absurd rfl (hn x s)
  | no => exact h
@[simp ↓] theorem ev_dnew : ev cf g .dnew l s k = k (.m []) s := rfl
@[simp ↓] theorem ev_dget : ev cf g (.dget o a b) l s k = ev cf g o l s fun x s1 => dgK cf g a b l x s1 k := bind_assoc _ _ _
theorem dg_okG {x : RD} (h : dgOk s x = true) : dgK cf g a b l x s k = ev cf g a l s fun q s2 => evv cf g b l s2 fun z s3 => opK (getR s3 x q (.d z)) s3 k := by unfold dgK; rw [if_pos h]; simp only [bind_assoc]; rfl
@[simp ↓] theorem dg_ok {x : RD} (h : (dctAt s x).isSome = true) : dgK cf g a b l x s k = ev cf g a l s fun q s2 => evv cf g b l s2 fun z s3 => opK (getR s3 x q (.d z)) s3 k := dg_okG (by unfold dgOk; rw [h]; rfl)
noncomputable def dg1K (cf : Nat → List D → Sto → Res RD) (g : Nat → Option D) (a : Ex) (l : Loc) (o : RD) (s1 : Sto) (k : RD → Sto → Res β) : Res β :=
  (if (dctAt s1 o).isSome = true ∨ (nAt s1 o).isSome = true then ((den cf g a).r l s1).bind fun q s2 => ofO (getR1 s2 o q) s2 else .no).bind k
@[simp ↓] theorem ev_dget1 : ev cf g (.dget1 o a) l s k = ev cf g o l s fun x s1 => dg1K cf g a l x s1 k := bind_assoc _ _ _
@[simp ↓] theorem dg1_ok {x : RD} (h : (dctAt s x).isSome = true ∨ (nAt s x).isSome = true) : dg1K cf g a l x s k = ev cf g a l s fun q s2 => opK (getR1 s2 x q) s2 k := by unfold dg1K; rw [if_pos h]; simp only [bind_assoc]; rfl
@[simp ↓] theorem m1_app {x : D} (h : isLstB s x = true) : m1K cf g .append a l x s k = evv cf g a l s fun y s2 => resK (m1R .append x (.d y) s2) k := by unfold m1K; rw [if_pos h, if_pos rfl, bind_assoc]; rfl
@[simp ↓] theorem m1_ext {x : D} (h : isLstB s x = true) : m1K cf g .extend a l x s k = ev cf g a l s fun y s2 => resK (m1R .extend x y s2) k := by unfold m1K; rw [if_pos h, if_neg (by decide), bind_assoc]; rfl
@[simp ↓] theorem neg_int {i : Int} : negK (.d (.int i)) s k = k (.d (.int (-i))) s := rfl
@[simp ↓] theorem nt_bl {t : Bool} : ntK (.d (.bl t)) s k = k (.d (.bl (!t))) s := rfl
@[simp ↓] theorem and_bl {t : Bool} {A : Res RD} : andK (.d (.bl t)) A s k = if t = true then A.bind k else k (.d (.bl false)) s := by cases t <;> rfl
@[simp ↓] theorem or_bl {t : Bool} {A : Res RD} : orK (.d (.bl t)) A s k = if t = true then k (.d (.bl true)) s else A.bind k := by cases t <;> rfl
@[simp ↓] theorem fold_ev {e : Ex} : ((den cf g e).r l s).bind k = ev cf g e l s k := rfl
@[simp ↓] theorem ev_var0 {r : Loc} {d : D} : ev cf g (.var 0) (some d :: r) s k = k (.d d) s := rfl
@[simp ↓] theorem ev_var1 {x0 : Option D} {r : Loc} {d : D} : ev cf g (.var 1) (x0 :: some d :: r) s k = k (.d d) s := rfl
@[simp ↓] theorem ev_var2 {x0 x1 : Option D} {r : Loc} {d : D} : ev cf g (.var 2) (x0 :: x1 :: some d :: r) s k = k (.d d) s := rfl
@[simp ↓] theorem ev_var3 {x0 x1 x2 : Option D} {r : Loc} {d : D} : ev cf g (.var 3) (x0 :: x1 :: x2 :: some d :: r) s k = k (.d d) s := rfl
@[simp ↓] theorem ev_var4 {x0 x1 x2 x3 : Option D} {r : Loc} {d : D} : ev cf g (.var 4) (x0 :: x1 :: x2 :: x3 :: some d :: r) s k = k (.d d) s := rfl
@[simp ↓] theorem ev_var5 {x0 x1 x2 x3 x4 : Option D} {r : Loc} {d : D} : ev cf g (.var 5) (x0 :: x1 :: x2 :: x3 :: x4 :: some d :: r) s k = k (.d d) s := rfl
@[simp ↓] theorem ev_var6 {x0 x1 x2 x3 x4 x5 : Option D} {r : Loc} {d : D} : ev cf g (.var 6) (x0 :: x1 :: x2 :: x3 :: x4 :: x5 :: some d :: r) s k = k (.d d) s := rfl
@[simp ↓] theorem ev_var7 {x0 x1 x2 x3 x4 x5 x6 : Option D} {r : Loc} {d : D} : ev cf g (.var 7) (x0 :: x1 :: x2 :: x3 :: x4 :: x5 :: x6 :: some d :: r) s k = k (.d d) s := rfl
@[simp ↓] theorem ev_var8 {x0 x1 x2 x3 x4 x5 x6 x7 : Option D} {r : Loc} {d : D} : ev cf g (.var 8) (x0 :: x1 :: x2 :: x3 :: x4 :: x5 :: x6 :: x7 :: some d :: r) s k = k (.d d) s := rfl
@[simp ↓] theorem ev_var9 {x0 x1 x2 x3 x4 x5 x6 x7 x8 : Option D} {r : Loc} {d : D} : ev cf g (.var 9) (x0 :: x1 :: x2 :: x3 :: x4 :: x5 :: x6 :: x7 :: x8 :: some d :: r) s k = k (.d d) s := rfl
@[simp ↓] theorem ev_var10 {x0 x1 x2 x3 x4 x5 x6 x7 x8 x9 : Option D} {r : Loc} {d : D} : ev cf g (.var 10) (x0 :: x1 :: x2 :: x3 :: x4 :: x5 :: x6 :: x7 :: x8 :: x9 :: some d :: r) s k = k (.d d) s := rfl
@[simp ↓] theorem ev_var11 {x0 x1 x2 x3 x4 x5 x6 x7 x8 x9 x10 : Option D} {r : Loc} {d : D} : ev cf g (.var 11) (x0 :: x1 :: x2 :: x3 :: x4 :: x5 :: x6 :: x7 :: x8 :: x9 :: x10 :: some d :: r) s k = k (.d d) s := rfl
@[simp ↓] theorem ev_var12 {x0 x1 x2 x3 x4 x5 x6 x7 x8 x9 x10 x11 : Option D} {r : Loc} {d : D} : ev cf g (.var 12) (x0 :: x1 :: x2 :: x3 :: x4 :: x5 :: x6 :: x7 :: x8 :: x9 :: x10 :: x11 :: some d :: r) s k = k (.d d) s := rfl
@[simp ↓] theorem ev_var13 {x0 x1 x2 x3 x4 x5 x6 x7 x8 x9 x10 x11 x12 : Option D} {r : Loc} {d : D} : ev cf g (.var 13) (x0 :: x1 :: x2 :: x3 :: x4 :: x5 :: x6 :: x7 :: x8 :: x9 :: x10 :: x11 :: x12 :: some d :: r) s k = k (.d d) s := rfl
@[simp ↓] theorem ev_var14 {x0 x1 x2 x3 x4 x5 x6 x7 x8 x9 x10 x11 x12 x13 : Option D} {r : Loc} {d : D} : ev cf g (.var 14) (x0 :: x1 :: x2 :: x3 :: x4 :: x5 :: x6 :: x7 :: x8 :: x9 :: x10 :: x11 :: x12 :: x13 :: some d :: r) s k = k (.d d) s := rfl
@[simp ↓] theorem ev_var15 {x0 x1 x2 x3 x4 x5 x6 x7 x8 x9 x10 x11 x12 x13 x14 : Option D} {r : Loc} {d : D} : ev cf g (.var 15) (x0 :: x1 :: x2 :: x3 :: x4 :: x5 :: x6 :: x7 :: x8 :: x9 :: x10 :: x11 :: x12 :: x13 :: x14 :: some d :: r) s k = k (.d d) s := rfl
end
@[simp ↓] theorem ite_k {t : Bool} {A B : Res α} {k : α → Sto → Res β} : iteK t A B k = if t = true then A.bind k else B.bind k := by cases t <;> rfl
@[simp ↓] theorem ok_k {c : Prop} [Decidable c] {x : α} {k : α → Sto → Res β} (h : c) : okK c x s k = k x s := by unfold okK; rw [if_pos h]; rfl
@[simp ↓] theorem op_k {x : α} {k : α → Sto → Res β} : opK (some x) s k = k x s := rfl
@[simp ↓] theorem res_k {x : α} {k : α → Sto → Res β} : resK (.ok x s) k = k x s := rfl
@[simp ↓] theorem fold_evb {e : Ex} {k : Bool → Sto → Res β} : ((den cf g e).b l s).bind k = evb cf g e l s k := rfl
@[simp ↓] theorem fold_evv {e : Ex} {k : D → Sto → Res β} : ((den cf g e).v l s).bind k = evv cf g e l s k := rfl
section
variable {k : D → Sto → Res β}
@[simp ↓] theorem evv_eq {e : Ex} : evv cf g e l s k = ev cf g e l s fun x s1 => alK x s1 k := bind_assoc _ _ _
@[simp ↓] theorem al_d {x : D} : alK (.d x) s k = k x s := rfl
@[simp ↓] theorem al_l {xs : List D} : alK (.l xs) s k = k (.obj s.length) (s ++ [.lst xs]) := rfl
@[simp ↓] theorem al_m {kvs : List (D × D)} : alK (.m kvs) s k = k (.obj s.length) (s ++ [.dct kvs]) := rfl
end
section
variable {k : Bool → Sto → Res β}
@[simp ↓] theorem evb_cmp {p : Cop} : evb cf g (.cmp p a b) l s k = ev cf g a l s fun x s1 => ev cf g b l s1 fun y s2 => opK (cmpR p s2 x y) s2 k := by show Res.bind (Res.bind _ _) _ = _; simp only [bind_assoc]; rfl
@[simp ↓] theorem evb_cmp2 {p q : Cop} : evb cf g (.cmp2 p q a b c) l s k = ev cf g a l s fun x s1 => ev cf g b l s1 fun y s2 => opK (cmpR p s2 x y) s2 fun t s2 => if t = true then ev cf g c l s2 fun z s3 => opK (cmpR q s3 y z) s3 k else k false s2 := by
  show Res.bind (Res.bind _ _) _ = _
  simp only [bind_assoc]
  unfold ev opK
  refine congrArg _ (funext fun x => funext fun s1 => congrArg _ (funext fun y => funext fun s2 => congrArg _ (funext fun t => funext fun s2 => ?_)))
  cases t
  · rfl
  · rw [if_pos rfl, if_pos rfl, bind_assoc]
@[simp ↓] theorem evb_kin {j : Nat} {kvs : List (Str × Int)} : evb cf g (.kin j kvs a) l s k = ev cf g a l s fun x s1 => opK (kinR kvs x) s1 k := bind_assoc _ _ _
@[simp ↓] theorem evb_nt : evb cf g (.nt a) l s k = evb cf g a l s fun t s1 => k (!t) s1 := bind_assoc _ _ _
@[simp ↓] theorem evb_and : evb cf g (.and a b) l s k = evb cf g a l s fun t s1 => if t = true then evb cf g b l s1 k else k false s1 := by show Res.bind (Res.bind _ _) _ = _; rw [bind_assoc]; unfold evb; congr 1; funext t s1; cases t <;> rfl
@[simp ↓] theorem evb_or : evb cf g (.or a b) l s k = evb cf g a l s fun t s1 => if t = true then k true s1 else evb cf g b l s1 k := by show Res.bind (Res.bind _ _) _ = _; rw [bind_assoc]; unfold evb; congr 1; funext t s1; cases t <;> rfl
@[simp ↓] theorem evb_nil : evb cf g .nil l s k = k true s := rfl
@[simp ↓] theorem evb_var {i : Nat} : evb cf g (.var i) l s k = ev cf g (.var i) l s fun x s1 => opK (truthR s1 x) s1 k := bind_assoc _ _ _
@[simp ↓] theorem evb_bl {z : Bool} : evb cf g (.bl z) l s k = k z s := rfl
@[simp ↓] theorem evb_call {f : Nat} : evb cf g (.call f es) l s k = ev cf g (.call f es) l s fun x s1 => opK (truthR s1 x) s1 k := bind_assoc _ _ _
@[simp ↓] theorem evb_b1 {f : B1} : evb cf g (.b1 f a) l s k = ev cf g (.b1 f a) l s fun x s1 => opK (truthR s1 x) s1 k := bind_assoc _ _ _
@[simp ↓] theorem evb_isin {t : Ty} : evb cf g (.isin a t) l s k = ev cf g (.isin a t) l s fun x s1 => opK (truthR s1 x) s1 k := bind_assoc _ _ _
@[simp ↓] theorem evb_ix : evb cf g (.ix a b) l s k = ev cf g (.ix a b) l s fun x s1 => opK (truthR s1 x) s1 k := bind_assoc _ _ _
end
section
variable {k : Its → Sto → Res β}
@[simp ↓] theorem evi_i1 {f : I1} : evi cf g (.i1 f a) l s k = ev cf g a l s fun x s1 => opK (i1R f s1 x) s1 k := bind_assoc _ _ _
@[simp ↓] theorem evi_i2 {f : I2} : evi cf g (.i2 f a b) l s k = ev cf g a l s fun x s1 => ev cf g b l s1 fun y s2 => opK (i2R f s2 x y) s2 k := by show Res.bind (Res.bind _ _) _ = _; simp only [bind_assoc]; rfl
@[simp ↓] theorem evi_rng3 : evi cf g (.rng3 a b c) l s k = ev cf g a l s fun x s1 => ev cf g b l s1 fun y s2 => ev cf g c l s2 fun z s3 => opK (rng3R x y z) s3 k := by show Res.bind (Res.bind _ _) _ = _; simp only [bind_assoc]; rfl
@[simp ↓] theorem evi_var {i : Nat} : evi cf g (.var i) l s k = ev cf g (.var i) l s fun x s1 => opK (itsR s1 x) s1 k := bind_assoc _ _ _
@[simp ↓] theorem evi_call {f : Nat} : evi cf g (.call f es) l s k = ev cf g (.call f es) l s fun x s1 => opK (itsR s1 x) s1 k := bind_assoc _ _ _
@[simp ↓] theorem evi_ix : evi cf g (.ix a b) l s k = ev cf g (.ix a b) l s fun x s1 => opK (itsR s1 x) s1 k := bind_assoc _ _ _
@[simp ↓] theorem evi_sl : evi cf g (.sl a lo hi) l s k = ev cf g (.sl a lo hi) l s fun x s1 => opK (itsR s1 x) s1 k := bind_assoc _ _ _
@[simp ↓] theorem evi_fs {f : FS} : evi cf g (.fs f a) l s k = ev cf g (.fs f a) l s fun x s1 => opK (itsR s1 x) s1 k := bind_assoc _ _ _
@[simp ↓] theorem evi_rev : evi cf g (.rev a) l s k = ev cf g (.rev a) l s fun x s1 => opK (itsR s1 x) s1 k := bind_assoc _ _ _
@[simp ↓] theorem evi_si : evi cf g (.si a) l s k = ev cf g (.si a) l s fun x s1 => opK (itsR s1 x) s1 k := bind_assoc _ _ _
@[simp ↓] theorem evi_lst : evi cf g (.lst es) l s k = ev cf g (.lst es) l s fun x s1 => opK (itsR s1 x) s1 k := bind_assoc _ _ _
@[simp ↓] theorem evi_tup : evi cf g (.tup es) l s k = ev cf g (.tup es) l s fun x s1 => opK (itsR s1 x) s1 k := bind_assoc _ _ _
@[simp ↓] theorem evi_cp {own : List Nat} : evi cf g (.cp elt tg it c own) l s k = ev cf g (.cp elt tg it c own) l s fun x s1 => opK (itsR s1 x) s1 k := bind_assoc _ _ _
@[simp ↓] theorem evi_bin {p : Bop} : evi cf g (.bin p a b) l s k = ev cf g (.bin p a b) l s fun x s1 => opK (itsR s1 x) s1 k := bind_assoc _ _ _
@[simp ↓] theorem evi_b1 {f : B1} : evi cf g (.b1 f a) l s k = ev cf g (.b1 f a) l s fun x s1 => opK (itsR s1 x) s1 k := bind_assoc _ _ _
end
@[simp ↓] theorem evs_nil {k : List D → Sto → Res β} : evs cf g .nil l s k = k [] s := rfl
@[simp ↓] theorem evs_cons {k : List D → Sto → Res β} : evs cf g (.cons a b) l s k = evv cf g a l s fun x s1 => evs cf g b l s1 fun xs s2 => k (x :: xs) s2 := by show Res.bind (Res.bind _ _) _ = _; simp only [bind_assoc]; rfl
@[simp ↓] theorem evo_nil {k : Option Int → Sto → Res β} : evo cf g .nil l s k = k none s := rfl
theorem evo_some {k : Option Int → Sto → Res β} (h : a.isNil = false) : evo cf g a l s k = ev cf g a l s fun y s1 => inK y s1 k := by unfold evo; rw [h]; exact bind_assoc _ _ _
@[simp ↓] theorem evo_int {z : Int} {k : Option Int → Sto → Res β} : evo cf g (.int z) l s k = k (some z) s := rfl
@[simp ↓] theorem evo_var {i : Nat} {k : Option Int → Sto → Res β} : evo cf g (.var i) l s k = ev cf g (.var i) l s fun y s1 => inK y s1 k := evo_some rfl
@[simp ↓] theorem evo_bin {p : Bop} {k : Option Int → Sto → Res β} : evo cf g (.bin p a b) l s k = ev cf g (.bin p a b) l s fun y s1 => inK y s1 k := evo_some rfl
@[simp ↓] theorem in_int {i : Int} {k : Option Int → Sto → Res β} : inK (.d (.int i)) s k = k (some i) s := rfl
/-! statements -/
section
variable {u v : Sm} {j : Fl → Loc → Sto → Res β}
@[simp ↓] theorem sk_nil : sk cf g .nil l s j = j .nx l s := rfl
@[simp ↓] theorem sk_cons : sk cf g (.cons u v) l s j = sk cf g u l s fun f l1 s1 => flK f (sk cf g v l1 s1 j) (j f l1 s1) := by
  unfold sk
  show Res.bind (Res.bind _ _) _ = _
  rw [bind_assoc]
  congr 1
  funext fl s1
  obtain ⟨f, l1⟩ := fl
  cases f <;> rfl
@[simp ↓] theorem fl_nx {p q : Res β} : flK .nx p q = p := rfl
@[simp ↓] theorem fl_rt {d : RD} {p q : Res β} : flK (.rt d) p q = q := rfl
@[simp ↓] theorem fl_bk {p q : Res β} : flK .bk p q = q := rfl
@[simp ↓] theorem fl_ct {p q : Res β} : flK .ct p q = q := rfl
@[simp ↓] theorem sk_ex : sk cf g (.ex a) l s j = ev cf g a l s fun _ s1 => j .nx l s1 := bind_assoc _ _ _
@[simp ↓] theorem sk_set : sk cf g (.set tg a) l s j = evv cf g a l s fun d s1 => btK (bindT tg (unlD tg s1 d) l) fun l1 => j .nx l1 s1 := by
  unfold sk
  show Res.bind (Res.bind _ _) _ = _
  rw [bind_assoc]
  unfold evv
  congr 1
  funext d s1
  generalize bindT tg (unlD tg s1 d) l = o
  cases o <;> rfl
@[simp] theorem unl_v {i : Nat} {s : Sto} {d : D} : unlD (.v i) s d = d := rfl
@[simp] theorem unl_tup {s : Sto} {tg : Tg} {xs : List D} : unlD tg s (.tup xs) = .tup xs := by unfold unlD; split <;> rfl
@[simp] theorem unl_lf {s : Sto} {tg : Tg} {xs : List D} : unlD tg s (.lf xs) = .lf xs := by unfold unlD; split <;> rfl
@[simp] theorem unl_obj {s : Sto} {t1 t2 : Tg} {i : Nat} : unlD (.c t1 t2) s (.obj i) = match s[i]? with
    | some (.lst xs) => .lf xs
    | _ => .obj i := rfl
@[simp ↓] theorem sk_setI : sk cf g (.setI o a b) l s j = evv cf g b l s fun d s1 => evv cf g o l s1 fun p s2 => evv cf g a l s2 fun q s3 => resK (setR p q d s3) fun _ s4 => j .nx l s4 := by unfold sk; show Res.bind (Res.bind _ _) _ = _; simp only [bind_assoc]; rfl
def sliK (o d : D) (i j : Option Int) (s : Sto) (k : Unit → Sto → Res β) : Res β := match i, j with
  | some i, some j => (setSlR o d i j s).bind k
  | _, _ => .no
@[simp ↓] theorem sk_setSl : sk cf g (.setSl o lo hi a) l s j = evv cf g a l s fun d s1 => evv cf g o l s1 fun p s2 => ev cf g lo l s2 fun y s3 => inK y s3 fun i s3 => ev cf g hi l s3 fun z s4 => inK z s4 fun h s4 => sliK p d i h s4 fun _ s5 => j .nx l s5 := by
  unfold sk
  show Res.bind (Res.bind _ _) _ = _
  simp only [bind_assoc]
  unfold evv ev inK
  refine congrArg _ (funext fun d => funext fun s1 => congrArg _ (funext fun p => funext fun s2 => ?_))
  show Res.bind (Res.bind _ _) _ = _
  rw [bind_assoc]
  refine congrArg _ (funext fun y => funext fun s3 => congrArg _ (funext fun i => funext fun s3 => ?_))
  show Res.bind (Res.bind _ _) _ = _
  rw [bind_assoc]
  refine congrArg _ (funext fun z => funext fun s4 => congrArg _ (funext fun h => funext fun s4 => ?_))
  unfold sliK
  cases i with
  | none => rfl
  | some i => cases h with
    | none => rfl
    | some h => exact bind_assoc _ _ _
@[simp ↓] theorem sliK_some {o d : D} {i j : Int} {k : Unit → Sto → Res β} : sliK o d (some i) (some j) s k = resK (setSlR o d i j s) k := rfl
@[simp ↓] theorem sk_ret : sk cf g (.ret a) l s j = ev cf g a l s fun d s1 => j (.rt d) l s1 := bind_assoc _ _ _
@[simp ↓] theorem sk_retN : sk cf g .retN l s j = j (.rt (.d .non)) l s := rfl
@[simp ↓] theorem sk_ifs : sk cf g (.ifs c u v) l s j = evb cf g c l s fun t s1 => if t = true then sk cf g u l s1 j else sk cf g v l s1 j := by
  unfold sk
  show Res.bind (Res.bind _ _) _ = _
  rw [bind_assoc]
  unfold evb
  congr 1
  funext t s1
  cases t <;> rfl
@[simp ↓] theorem sk_for : sk cf g (.for_ tg a u) l s j = evi cf g a l s fun its s1 => forK tg its.src (sden cf g u) its.ds l s1 j := bind_assoc _ _ _
@[simp ↓] theorem sk_wh : sk cf g (.wh c u) l s j = whK (den cf g c).b (sden cf g u) whileFuel l s j := rfl
@[simp ↓] theorem sk_brk : sk cf g .brk l s j = j .bk l s := rfl
@[simp ↓] theorem sk_cnt : sk cf g .cnt l s j = j .ct l s := rfl
@[simp ↓] theorem sk_pass : sk cf g .pass l s j = j .nx l s := rfl
theorem fold_sk : (sden cf g u l s).bind (fun fl s1 => j fl.1 fl.2 s1) = sk cf g u l s j := rfl
@[simp ↓] theorem bt_v0 {r : Loc} {o : Option D} {d : D} {f : Loc → Res β} : btK (bindT (.v 0) d (o :: r)) f = f (some d :: r) := by unfold bindT; simp [btK]
@[simp ↓] theorem bt_v1 {x0 : Option D} {r : Loc} {o : Option D} {d : D} {f : Loc → Res β} : btK (bindT (.v 1) d (x0 :: o :: r)) f = f (x0 :: some d :: r) := by unfold bindT; simp [btK]
@[simp ↓] theorem bt_v2 {x0 x1 : Option D} {r : Loc} {o : Option D} {d : D} {f : Loc → Res β} : btK (bindT (.v 2) d (x0 :: x1 :: o :: r)) f = f (x0 :: x1 :: some d :: r) := by unfold bindT; simp [btK]
@[simp ↓] theorem bt_v3 {x0 x1 x2 : Option D} {r : Loc} {o : Option D} {d : D} {f : Loc → Res β} : btK (bindT (.v 3) d (x0 :: x1 :: x2 :: o :: r)) f = f (x0 :: x1 :: x2 :: some d :: r) := by unfold bindT; simp [btK]
@[simp ↓] theorem bt_v4 {x0 x1 x2 x3 : Option D} {r : Loc} {o : Option D} {d : D} {f : Loc → Res β} : btK (bindT (.v 4) d (x0 :: x1 :: x2 :: x3 :: o :: r)) f = f (x0 :: x1 :: x2 :: x3 :: some d :: r) := by unfold bindT; simp [btK]
@[simp ↓] theorem bt_v5 {x0 x1 x2 x3 x4 : Option D} {r : Loc} {o : Option D} {d : D} {f : Loc → Res β} : btK (bindT (.v 5) d (x0 :: x1 :: x2 :: x3 :: x4 :: o :: r)) f = f (x0 :: x1 :: x2 :: x3 :: x4 :: some d :: r) := by unfold bindT; simp [btK]
@[simp ↓] theorem bt_v6 {x0 x1 x2 x3 x4 x5 : Option D} {r : Loc} {o : Option D} {d : D} {f : Loc → Res β} : btK (bindT (.v 6) d (x0 :: x1 :: x2 :: x3 :: x4 :: x5 :: o :: r)) f = f (x0 :: x1 :: x2 :: x3 :: x4 :: x5 :: some d :: r) := by unfold bindT; simp [btK]
@[simp ↓] theorem bt_v7 {x0 x1 x2 x3 x4 x5 x6 : Option D} {r : Loc} {o : Option D} {d : D} {f : Loc → Res β} : btK (bindT (.v 7) d (x0 :: x1 :: x2 :: x3 :: x4 :: x5 :: x6 :: o :: r)) f = f (x0 :: x1 :: x2 :: x3 :: x4 :: x5 :: x6 :: some d :: r) := by unfold bindT; simp [btK]
@[simp ↓] theorem bt_v8 {x0 x1 x2 x3 x4 x5 x6 x7 : Option D} {r : Loc} {o : Option D} {d : D} {f : Loc → Res β} : btK (bindT (.v 8) d (x0 :: x1 :: x2 :: x3 :: x4 :: x5 :: x6 :: x7 :: o :: r)) f = f (x0 :: x1 :: x2 :: x3 :: x4 :: x5 :: x6 :: x7 :: some d :: r) := by unfold bindT; simp [btK]
@[simp ↓] theorem bt_v9 {x0 x1 x2 x3 x4 x5 x6 x7 x8 : Option D} {r : Loc} {o : Option D} {d : D} {f : Loc → Res β} : btK (bindT (.v 9) d (x0 :: x1 :: x2 :: x3 :: x4 :: x5 :: x6 :: x7 :: x8 :: o :: r)) f = f (x0 :: x1 :: x2 :: x3 :: x4 :: x5 :: x6 :: x7 :: x8 :: some d :: r) := by unfold bindT; simp [btK]
@[simp ↓] theorem bt_v10 {x0 x1 x2 x3 x4 x5 x6 x7 x8 x9 : Option D} {r : Loc} {o : Option D} {d : D} {f : Loc → Res β} : btK (bindT (.v 10) d (x0 :: x1 :: x2 :: x3 :: x4 :: x5 :: x6 :: x7 :: x8 :: x9 :: o :: r)) f = f (x0 :: x1 :: x2 :: x3 :: x4 :: x5 :: x6 :: x7 :: x8 :: x9 :: some d :: r) := by unfold bindT; simp [btK]
@[simp ↓] theorem bt_v11 {x0 x1 x2 x3 x4 x5 x6 x7 x8 x9 x10 : Option D} {r : Loc} {o : Option D} {d : D} {f : Loc → Res β} : btK (bindT (.v 11) d (x0 :: x1 :: x2 :: x3 :: x4 :: x5 :: x6 :: x7 :: x8 :: x9 :: x10 :: o :: r)) f = f (x0 :: x1 :: x2 :: x3 :: x4 :: x5 :: x6 :: x7 :: x8 :: x9 :: x10 :: some d :: r) := by unfold bindT; simp [btK]
@[simp ↓] theorem bt_v12 {x0 x1 x2 x3 x4 x5 x6 x7 x8 x9 x10 x11 : Option D} {r : Loc} {o : Option D} {d : D} {f : Loc → Res β} : btK (bindT (.v 12) d (x0 :: x1 :: x2 :: x3 :: x4 :: x5 :: x6 :: x7 :: x8 :: x9 :: x10 :: x11 :: o :: r)) f = f (x0 :: x1 :: x2 :: x3 :: x4 :: x5 :: x6 :: x7 :: x8 :: x9 :: x10 :: x11 :: some d :: r) := by unfold bindT; simp [btK]
@[simp ↓] theorem bt_v13 {x0 x1 x2 x3 x4 x5 x6 x7 x8 x9 x10 x11 x12 : Option D} {r : Loc} {o : Option D} {d : D} {f : Loc → Res β} : btK (bindT (.v 13) d (x0 :: x1 :: x2 :: x3 :: x4 :: x5 :: x6 :: x7 :: x8 :: x9 :: x10 :: x11 :: x12 :: o :: r)) f = f (x0 :: x1 :: x2 :: x3 :: x4 :: x5 :: x6 :: x7 :: x8 :: x9 :: x10 :: x11 :: x12 :: some d :: r) := by unfold bindT; simp [btK]
@[simp ↓] theorem bt_v14 {x0 x1 x2 x3 x4 x5 x6 x7 x8 x9 x10 x11 x12 x13 : Option D} {r : Loc} {o : Option D} {d : D} {f : Loc → Res β} : btK (bindT (.v 14) d (x0 :: x1 :: x2 :: x3 :: x4 :: x5 :: x6 :: x7 :: x8 :: x9 :: x10 :: x11 :: x12 :: x13 :: o :: r)) f = f (x0 :: x1 :: x2 :: x3 :: x4 :: x5 :: x6 :: x7 :: x8 :: x9 :: x10 :: x11 :: x12 :: x13 :: some d :: r) := by unfold bindT; simp [btK]
@[simp ↓] theorem bt_v15 {x0 x1 x2 x3 x4 x5 x6 x7 x8 x9 x10 x11 x12 x13 x14 : Option D} {r : Loc} {o : Option D} {d : D} {f : Loc → Res β} : btK (bindT (.v 15) d (x0 :: x1 :: x2 :: x3 :: x4 :: x5 :: x6 :: x7 :: x8 :: x9 :: x10 :: x11 :: x12 :: x13 :: x14 :: o :: r)) f = f (x0 :: x1 :: x2 :: x3 :: x4 :: x5 :: x6 :: x7 :: x8 :: x9 :: x10 :: x11 :: x12 :: x13 :: x14 :: some d :: r) := by unfold bindT; simp [btK]
@[simp ↓] theorem sk_aug0 {p : Bop} {r : Loc} {d : D} {j : Fl → Loc → Sto → Res β} : sk cf g (.aug 0 p a) (some d :: r) s j = ev cf g a (some d :: r) s fun y s1 => opK (augR p d y) s1 fun d2 s2 => j .nx (some d2 :: r) s2 := by unfold sk; show Res.bind (Res.bind _ _) _ = _; simp only [bind_assoc]; rfl
@[simp ↓] theorem sk_aug1 {p : Bop} {x0 : Option D} {r : Loc} {d : D} {j : Fl → Loc → Sto → Res β} : sk cf g (.aug 1 p a) (x0 :: some d :: r) s j = ev cf g a (x0 :: some d :: r) s fun y s1 => opK (augR p d y) s1 fun d2 s2 => j .nx (x0 :: some d2 :: r) s2 := by unfold sk; show Res.bind (Res.bind _ _) _ = _; simp only [bind_assoc]; rfl
@[simp ↓] theorem sk_aug2 {p : Bop} {x0 x1 : Option D} {r : Loc} {d : D} {j : Fl → Loc → Sto → Res β} : sk cf g (.aug 2 p a) (x0 :: x1 :: some d :: r) s j = ev cf g a (x0 :: x1 :: some d :: r) s fun y s1 => opK (augR p d y) s1 fun d2 s2 => j .nx (x0 :: x1 :: some d2 :: r) s2 := by unfold sk; show Res.bind (Res.bind _ _) _ = _; simp only [bind_assoc]; rfl
@[simp ↓] theorem sk_aug3 {p : Bop} {x0 x1 x2 : Option D} {r : Loc} {d : D} {j : Fl → Loc → Sto → Res β} : sk cf g (.aug 3 p a) (x0 :: x1 :: x2 :: some d :: r) s j = ev cf g a (x0 :: x1 :: x2 :: some d :: r) s fun y s1 => opK (augR p d y) s1 fun d2 s2 => j .nx (x0 :: x1 :: x2 :: some d2 :: r) s2 := by unfold sk; show Res.bind (Res.bind _ _) _ = _; simp only [bind_assoc]; rfl
@[simp ↓] theorem sk_aug4 {p : Bop} {x0 x1 x2 x3 : Option D} {r : Loc} {d : D} {j : Fl → Loc → Sto → Res β} : sk cf g (.aug 4 p a) (x0 :: x1 :: x2 :: x3 :: some d :: r) s j = ev cf g a (x0 :: x1 :: x2 :: x3 :: some d :: r) s fun y s1 => opK (augR p d y) s1 fun d2 s2 => j .nx (x0 :: x1 :: x2 :: x3 :: some d2 :: r) s2 := by unfold sk; show Res.bind (Res.bind _ _) _ = _; simp only [bind_assoc]; rfl
@[simp ↓] theorem sk_aug5 {p : Bop} {x0 x1 x2 x3 x4 : Option D} {r : Loc} {d : D} {j : Fl → Loc → Sto → Res β} : sk cf g (.aug 5 p a) (x0 :: x1 :: x2 :: x3 :: x4 :: some d :: r) s j = ev cf g a (x0 :: x1 :: x2 :: x3 :: x4 :: some d :: r) s fun y s1 => opK (augR p d y) s1 fun d2 s2 => j .nx (x0 :: x1 :: x2 :: x3 :: x4 :: some d2 :: r) s2 := by unfold sk; show Res.bind (Res.bind _ _) _ = _; simp only [bind_assoc]; rfl
@[simp ↓] theorem sk_aug6 {p : Bop} {x0 x1 x2 x3 x4 x5 : Option D} {r : Loc} {d : D} {j : Fl → Loc → Sto → Res β} : sk cf g (.aug 6 p a) (x0 :: x1 :: x2 :: x3 :: x4 :: x5 :: some d :: r) s j = ev cf g a (x0 :: x1 :: x2 :: x3 :: x4 :: x5 :: some d :: r) s fun y s1 => opK (augR p d y) s1 fun d2 s2 => j .nx (x0 :: x1 :: x2 :: x3 :: x4 :: x5 :: some d2 :: r) s2 := by unfold sk; show Res.bind (Res.bind _ _) _ = _; simp only [bind_assoc]; rfl
@[simp ↓] theorem sk_aug7 {p : Bop} {x0 x1 x2 x3 x4 x5 x6 : Option D} {r : Loc} {d : D} {j : Fl → Loc → Sto → Res β} : sk cf g (.aug 7 p a) (x0 :: x1 :: x2 :: x3 :: x4 :: x5 :: x6 :: some d :: r) s j = ev cf g a (x0 :: x1 :: x2 :: x3 :: x4 :: x5 :: x6 :: some d :: r) s fun y s1 => opK (augR p d y) s1 fun d2 s2 => j .nx (x0 :: x1 :: x2 :: x3 :: x4 :: x5 :: x6 :: some d2 :: r) s2 := by unfold sk; show Res.bind (Res.bind _ _) _ = _; simp only [bind_assoc]; rfl
@[simp ↓] theorem sk_aug8 {p : Bop} {x0 x1 x2 x3 x4 x5 x6 x7 : Option D} {r : Loc} {d : D} {j : Fl → Loc → Sto → Res β} : sk cf g (.aug 8 p a) (x0 :: x1 :: x2 :: x3 :: x4 :: x5 :: x6 :: x7 :: some d :: r) s j = ev cf g a (x0 :: x1 :: x2 :: x3 :: x4 :: x5 :: x6 :: x7 :: some d :: r) s fun y s1 => opK (augR p d y) s1 fun d2 s2 => j .nx (x0 :: x1 :: x2 :: x3 :: x4 :: x5 :: x6 :: x7 :: some d2 :: r) s2 := by unfold sk; show Res.bind (Res.bind _ _) _ = _; simp only [bind_assoc]; rfl
@[simp ↓] theorem sk_aug9 {p : Bop} {x0 x1 x2 x3 x4 x5 x6 x7 x8 : Option D} {r : Loc} {d : D} {j : Fl → Loc → Sto → Res β} : sk cf g (.aug 9 p a) (x0 :: x1 :: x2 :: x3 :: x4 :: x5 :: x6 :: x7 :: x8 :: some d :: r) s j = ev cf g a (x0 :: x1 :: x2 :: x3 :: x4 :: x5 :: x6 :: x7 :: x8 :: some d :: r) s fun y s1 => opK (augR p d y) s1 fun d2 s2 => j .nx (x0 :: x1 :: x2 :: x3 :: x4 :: x5 :: x6 :: x7 :: x8 :: some d2 :: r) s2 := by unfold sk; show Res.bind (Res.bind _ _) _ = _; simp only [bind_assoc]; rfl
@[simp ↓] theorem sk_aug10 {p : Bop} {x0 x1 x2 x3 x4 x5 x6 x7 x8 x9 : Option D} {r : Loc} {d : D} {j : Fl → Loc → Sto → Res β} : sk cf g (.aug 10 p a) (x0 :: x1 :: x2 :: x3 :: x4 :: x5 :: x6 :: x7 :: x8 :: x9 :: some d :: r) s j = ev cf g a (x0 :: x1 :: x2 :: x3 :: x4 :: x5 :: x6 :: x7 :: x8 :: x9 :: some d :: r) s fun y s1 => opK (augR p d y) s1 fun d2 s2 => j .nx (x0 :: x1 :: x2 :: x3 :: x4 :: x5 :: x6 :: x7 :: x8 :: x9 :: some d2 :: r) s2 := by unfold sk; show Res.bind (Res.bind _ _) _ = _; simp only [bind_assoc]; rfl
@[simp ↓] theorem sk_aug11 {p : Bop} {x0 x1 x2 x3 x4 x5 x6 x7 x8 x9 x10 : Option D} {r : Loc} {d : D} {j : Fl → Loc → Sto → Res β} : sk cf g (.aug 11 p a) (x0 :: x1 :: x2 :: x3 :: x4 :: x5 :: x6 :: x7 :: x8 :: x9 :: x10 :: some d :: r) s j = ev cf g a (x0 :: x1 :: x2 :: x3 :: x4 :: x5 :: x6 :: x7 :: x8 :: x9 :: x10 :: some d :: r) s fun y s1 => opK (augR p d y) s1 fun d2 s2 => j .nx (x0 :: x1 :: x2 :: x3 :: x4 :: x5 :: x6 :: x7 :: x8 :: x9 :: x10 :: some d2 :: r) s2 := by unfold sk; show Res.bind (Res.bind _ _) _ = _; simp only [bind_assoc]; rfl
@[simp ↓] theorem sk_aug12 {p : Bop} {x0 x1 x2 x3 x4 x5 x6 x7 x8 x9 x10 x11 : Option D} {r : Loc} {d : D} {j : Fl → Loc → Sto → Res β} : sk cf g (.aug 12 p a) (x0 :: x1 :: x2 :: x3 :: x4 :: x5 :: x6 :: x7 :: x8 :: x9 :: x10 :: x11 :: some d :: r) s j = ev cf g a (x0 :: x1 :: x2 :: x3 :: x4 :: x5 :: x6 :: x7 :: x8 :: x9 :: x10 :: x11 :: some d :: r) s fun y s1 => opK (augR p d y) s1 fun d2 s2 => j .nx (x0 :: x1 :: x2 :: x3 :: x4 :: x5 :: x6 :: x7 :: x8 :: x9 :: x10 :: x11 :: some d2 :: r) s2 := by unfold sk; show Res.bind (Res.bind _ _) _ = _; simp only [bind_assoc]; rfl
@[simp ↓] theorem sk_aug13 {p : Bop} {x0 x1 x2 x3 x4 x5 x6 x7 x8 x9 x10 x11 x12 : Option D} {r : Loc} {d : D} {j : Fl → Loc → Sto → Res β} : sk cf g (.aug 13 p a) (x0 :: x1 :: x2 :: x3 :: x4 :: x5 :: x6 :: x7 :: x8 :: x9 :: x10 :: x11 :: x12 :: some d :: r) s j = ev cf g a (x0 :: x1 :: x2 :: x3 :: x4 :: x5 :: x6 :: x7 :: x8 :: x9 :: x10 :: x11 :: x12 :: some d :: r) s fun y s1 => opK (augR p d y) s1 fun d2 s2 => j .nx (x0 :: x1 :: x2 :: x3 :: x4 :: x5 :: x6 :: x7 :: x8 :: x9 :: x10 :: x11 :: x12 :: some d2 :: r) s2 := by unfold sk; show Res.bind (Res.bind _ _) _ = _; simp only [bind_assoc]; rfl
@[simp ↓] theorem sk_aug14 {p : Bop} {x0 x1 x2 x3 x4 x5 x6 x7 x8 x9 x10 x11 x12 x13 : Option D} {r : Loc} {d : D} {j : Fl → Loc → Sto → Res β} : sk cf g (.aug 14 p a) (x0 :: x1 :: x2 :: x3 :: x4 :: x5 :: x6 :: x7 :: x8 :: x9 :: x10 :: x11 :: x12 :: x13 :: some d :: r) s j = ev cf g a (x0 :: x1 :: x2 :: x3 :: x4 :: x5 :: x6 :: x7 :: x8 :: x9 :: x10 :: x11 :: x12 :: x13 :: some d :: r) s fun y s1 => opK (augR p d y) s1 fun d2 s2 => j .nx (x0 :: x1 :: x2 :: x3 :: x4 :: x5 :: x6 :: x7 :: x8 :: x9 :: x10 :: x11 :: x12 :: x13 :: some d2 :: r) s2 := by unfold sk; show Res.bind (Res.bind _ _) _ = _; simp only [bind_assoc]; rfl
@[simp ↓] theorem sk_aug15 {p : Bop} {x0 x1 x2 x3 x4 x5 x6 x7 x8 x9 x10 x11 x12 x13 x14 : Option D} {r : Loc} {d : D} {j : Fl → Loc → Sto → Res β} : sk cf g (.aug 15 p a) (x0 :: x1 :: x2 :: x3 :: x4 :: x5 :: x6 :: x7 :: x8 :: x9 :: x10 :: x11 :: x12 :: x13 :: x14 :: some d :: r) s j = ev cf g a (x0 :: x1 :: x2 :: x3 :: x4 :: x5 :: x6 :: x7 :: x8 :: x9 :: x10 :: x11 :: x12 :: x13 :: x14 :: some d :: r) s fun y s1 => opK (augR p d y) s1 fun d2 s2 => j .nx (x0 :: x1 :: x2 :: x3 :: x4 :: x5 :: x6 :: x7 :: x8 :: x9 :: x10 :: x11 :: x12 :: x13 :: x14 :: some d2 :: r) s2 := by unfold sk; show Res.bind (Res.bind _ _) _ = _; simp only [bind_assoc]; rfl
@[simp ↓] theorem bt_2 {t1 t2 : Tg} {x y : D} {f : Loc → Res β} : btK (bindT (.c t1 (.c t2 .n)) (.tup [x, y]) l) f = btK (bindT t1 x l) fun l1 => btK (bindT t2 y l1) f := by
  have e : bindT (.c t1 (.c t2 .n)) (.tup [x, y]) l = (bindT t1 x l).bind fun l1 => (bindT t2 y l1).bind some := by
    simp only [bindT, bindTs]
  rw [e]
  cases bindT t1 x l with
  | none => rfl
  | some l1 =>
    show btK ((bindT t2 y l1).bind some) f = btK (bindT t2 y l1) f
    cases bindT t2 y l1 <;> rfl
end
/-! loops -/
theorem for_nil {src : Option (Nat × List D)} {b : SM} {j : Fl → Loc → Sto → Res β} (h : srcOk src s) : forK tg src b [] l s j = j .nx l s := by unfold forK forLoop; rw [if_pos h]; rfl
theorem for_cons {src : Option (Nat × List D)} {u : Sm} {x : D} {r : List D} {j : Fl → Loc → Sto → Res β} (h : srcOk src s) :
    forK tg src (sden cf g u) (x :: r) l s j = btK (bindT tg x l) fun l1 => sk cf g u l1 s fun f l2 s2 => (match f with
      | .nx => forK tg src (sden cf g u) r l2 s2 j
      | .ct => forK tg src (sden cf g u) r l2 s2 j
      | .bk => j .nx l2 s2
      | .rt d => j (.rt d) l2 s2) := by
  unfold forK
  rw [forLoop, if_pos h]
  cases bindT tg x l with
  | none => rfl
  | some l1 =>
    simp only [btK, bind_assoc]
    unfold sk
    congr 1
    funext fl s1
    obtain ⟨f, l2⟩ := fl
    cases f <;> rfl
theorem cp_nil {src : Option (Nat × List D)} {c : M Bool} {e : M D} {acc : List D} {j : List D → Sto → Res β} (h : srcOk src s) : cpK tg src c e l [] acc s j = j acc s := by unfold cpK cpLoop; rw [if_pos h]; rfl
noncomputable def evbN (cf : Nat → List D → Sto → Res RD) (g : Nat → Option D) (e : Ex) (l : Loc) (s : Sto) (k : Bool → Sto → Res β) : Res β := (noX ((den cf g e).b l s)).bind k
noncomputable def evvN (cf : Nat → List D → Sto → Res RD) (g : Nat → Option D) (e : Ex) (l : Loc) (s : Sto) (k : D → Sto → Res β) : Res β := (noX ((den cf g e).v l s)).bind k
theorem cp_cons0 {src : Option (Nat × List D)} {x : D} {r acc : List D} {j : List D → Sto → Res β} (h : srcOk src s) (hl : acc.length < sizeLine) :
    cpK tg src (den cf g c).b (den cf g elt).v l (x :: r) acc s j = btK (bindT tg x l) fun l1 => evbN cf g c l1 s fun t s1 => if t = true then evvN cf g elt l1 s1 fun y s2 => cpK tg src (den cf g c).b (den cf g elt).v l r (acc ++ [y]) s2 j
      else cpK tg src (den cf g c).b (den cf g elt).v l r acc s1 j := by
  unfold cpK
  rw [cpLoop, if_pos h]
  cases bindT tg x l with
  | none => rfl
  | some l1 =>
    simp only [btK, bind_assoc]
    unfold evbN
    congr 1
    funext t s1
    cases t
    · rfl
    · simp only [bind_assoc, if_true]
      unfold evvN
      congr 1
      funext y s2
      rw [if_pos hl]
/-- a turn that raises nothing -/
theorem turnN {x : D} {K1 : D → Sto → Res β} {K2 : Sto → Res β} (h : btK (bindT tg x l) (fun l1 => evb cf g c l1 s fun t s1 => if t = true then evv cf g elt l1 s1 (fun _ _ => .no) else .no) = (.no : Res β)) :
    btK (bindT tg x l) (fun l1 => evbN cf g c l1 s fun t s1 => if t = true then evvN cf g elt l1 s1 K1 else K2 s1) = btK (bindT tg x l) (fun l1 => evb cf g c l1 s fun t s1 => if t = true then evv cf g elt l1 s1 K1 else K2 s1) := by
  cases e : bindT tg x l with
  | none => rfl
  | some l1 =>
    rw [e] at h
    unfold evb at h
    show (noX ((den cf g c).b l1 s)).bind _ = ((den cf g c).b l1 s).bind _
    cases e1 : (den cf g c).b l1 s with
    | no => rfl
    | ex d s1 => rw [btK, e1] at h; cases h
    | ok t s1 =>
      cases t with
      | false => rfl
      | true =>
        show (noX ((den cf g elt).v l1 s1)).bind _ = ((den cf g elt).v l1 s1).bind _
        rw [btK, e1] at h
        unfold evv at h
        cases e2 : (den cf g elt).v l1 s1 with
        | no => rfl
        | ok y s2 => rfl
        | ex d s2 =>
          have h2 : ((den cf g elt).v l1 s1).bind (fun _ _ => (.no : Res β)) = .no := h
          rw [e2] at h2; cases h2
theorem cp_cons {src : Option (Nat × List D)} {x : D} {r acc : List D} {j : List D → Sto → Res β} (h : srcOk src s) (hl : acc.length < sizeLine)
    (hx : btK (bindT tg x l) (fun l1 => evb cf g c l1 s fun t s1 => if t = true then evv cf g elt l1 s1 (fun _ _ => .no) else .no) = (.no : Res β)) :
    cpK tg src (den cf g c).b (den cf g elt).v l (x :: r) acc s j = btK (bindT tg x l) fun l1 => evb cf g c l1 s fun t s1 => if t = true then evv cf g elt l1 s1 fun y s2 => cpK tg src (den cf g c).b (den cf g elt).v l r (acc ++ [y]) s2 j
      else cpK tg src (den cf g c).b (den cf g elt).v l r acc s1 j := by
  rw [cp_cons0 h hl]
  exact turnN hx
/-! raise, try -/
@[simp ↓] theorem sk_raise {n : Str} {k : Fl → Loc → Sto → Res β} : sk cf g (.raise n) l s k = .ex (.str n) s := rfl
theorem sden_sk {u : Sm} : (sk cf g u l s fun f l1 s1 => (.ok (f, l1) s1 : Res (Fl × Loc))) = sden cf g u l s := by
  unfold sk
  cases sden cf g u l s <;> rfl
theorem callK_ex {f : Nat} {ds : List D} {k : RD → Sto → Res β} {d : D} {s1 : Sto} (h : cf f ds s = .ex d s1) : callK cf f ds s k = .ex d s1 := by unfold callK; rw [h]; rfl
theorem sk_try_ex {u : Sm} {cls n : Str} {i : Nat} {h : Hs} {k : Fl → Loc → Sto → Res β} {s1 : Sto} (hb : (sk cf g u l s fun f l1 s1 => (.ok (f, l1) s1 : Res (Fl × Loc))) = .ex (.str n) s1) (hi : i < l.length) :
    sk cf g (.try_ u cls i n h) l s k = k .nx ((h.run (l.set i none)).set i none) s1 := by
  rw [sden_sk] at hb
  have e : sden cf g (.try_ u cls i n h) l s = .ok (.nx, (h.run (l.set i none)).set i none) s1 := by
    unfold sden
    simp only [hb]
    simp only [hi, and_self, if_true]
  unfold sk
  rw [e]
  rfl
theorem sk_try_ok {u : Sm} {cls n : Str} {i : Nat} {h : Hs} {k : Fl → Loc → Sto → Res β} {f : Fl} {l1 : Loc} {s1 : Sto} (hb : (sk cf g u l s fun f l1 s1 => (.ok (f, l1) s1 : Res (Fl × Loc))) = .ok (f, l1) s1) :
    sk cf g (.try_ u cls i n h) l s k = k f l1 s1 := by
  rw [sden_sk] at hb
  have e : sden cf g (.try_ u cls i n h) l s = .ok (f, l1) s1 := by
    unfold sden
    simp only [hb]
  unfold sk
  rw [e]
  rfl
end
/-! operations on data of a known form -/
section
variable {s : Sto} {i j : Int} {x y : Str} {xs ys : List D} {d : D}
@[simp] theorem at0 {α : Type} {a : α} {r : List α} : atI (a :: r) 0 = some a := atI_nat (j := 0) rfl
@[simp] theorem at1 {α : Type} {a b : α} {r : List α} : atI (a :: b :: r) 1 = some b := atI_nat (j := 1) rfl
@[simp] theorem at2 {α : Type} {a b c : α} {r : List α} : atI (a :: b :: c :: r) 2 = some c := atI_nat (j := 2) rfl
@[simp] theorem ix0 {n : Nat} : ixN (n + 1) 0 = some 0 := by unfold ixN; rw [if_pos (by decide), if_pos (by omega)]; rfl
@[simp] theorem ix1 {n : Nat} : ixN (n + 1 + 1) 1 = some 1 := by unfold ixN; rw [if_pos (by decide), if_pos (by omega)]; rfl
@[simp] theorem ix12 : ixN 1 0 = some 0 := rfl
@[simp] theorem ix20 : ixN 2 0 = some 0 := rfl
@[simp] theorem ix21 : ixN 2 1 = some 1 := rfl
@[simp] theorem at3 {α : Type} {a b c e : α} {r : List α} : atI (a :: b :: c :: e :: r) 3 = some e := atI_nat (j := 3) rfl
@[simp] theorem bin_add : binR .add s (.d (.int i)) (.d (.int j)) = some (.d (.int (i + j))) := rfl
@[simp] theorem bin_sub : binR .sub s (.d (.int i)) (.d (.int j)) = some (.d (.int (i - j))) := rfl
open Classical in
@[simp] theorem bin_mul (h : CMul i j) : binR .mul s (.d (.int i)) (.d (.int j)) = some (.d (.int (i * j))) := by show (if CMul i j ∨ CMulW i j then some (i * j) else none).map _ = _; rw [if_pos (.inl h)]; rfl
open Classical in
theorem bin_mulW (h : CMulW i j) : binR .mul s (.d (.int i)) (.d (.int j)) = some (.d (.int (i * j))) := by show (if CMul i j ∨ CMulW i j then some (i * j) else none).map _ = _; rw [if_pos (.inr h)]; rfl
open Classical in
@[simp] theorem bin_fdiv (h : CDivN i j) : binR .fdiv s (.d (.int i)) (.d (.int j)) = some (.d (.int (i.fdiv j))) := by show (if CDivN i j ∨ CDivW i j then some (i.fdiv j) else none).map _ = _; rw [if_pos (.inl h)]; rfl
open Classical in
theorem bin_fdivW (h : CDivW i j) : binR .fdiv s (.d (.int i)) (.d (.int j)) = some (.d (.int (i.fdiv j))) := by show (if CDivN i j ∨ CDivW i j then some (i.fdiv j) else none).map _ = _; rw [if_pos (.inr h)]; rfl
@[simp] theorem bin_mod (h : j ≠ 0) : binR .mod s (.d (.int i)) (.d (.int j)) = some (.d (.int (i.fmod j))) := by show (if j ≠ 0 then some (i.fmod j) else none).map _ = _; rw [if_pos h]; rfl
@[simp] theorem bin_str (h : x.length + y.length ≤ sizeLine) : binR .add s (.d (.str x)) (.d (.str y)) = some (.d (.str (x ++ y))) := by show (if Bop.add = .add ∧ x.length + y.length ≤ sizeLine then _ else none) = _; rw [if_pos ⟨rfl, h⟩]
@[simp] theorem bin_tup (h : xs.length + ys.length ≤ sizeLine) : binR .add s (.d (.tup xs)) (.d (.tup ys)) = some (.d (.tup (xs ++ ys))) := by show (if Bop.add = .add then catR xs ys fun zs => .d (.tup zs) else none) = _; rw [if_pos rfl]; unfold catR; rw [if_pos h]
@[simp] theorem cmp_eq {a b : RD} : cmpR .eq s a b = eqR s a b := rfl
@[simp] theorem cmp_ne {a b : RD} : cmpR .ne s a b = (eqR s a b).map (!·) := rfl
@[simp] theorem cmp_deq {a b : RD} : cmpR .deq s a b = deqR s a b := rfl
@[simp] theorem cmp_dne {a b : RD} : cmpR .dne s a b = (deqR s a b).map (!·) := rfl
@[simp] theorem cmp_lt : cmpR .lt s (.d (.int i)) (.d (.int j)) = some (decide (i < j)) := rfl
@[simp] theorem cmp_gt : cmpR .gt s (.d (.int i)) (.d (.int j)) = some (decide (j < i)) := rfl
@[simp] theorem cmp_le : cmpR .le s (.d (.int i)) (.d (.int j)) = some (decide (i ≤ j)) := rfl
@[simp] theorem cmp_ge : cmpR .ge s (.d (.int i)) (.d (.int j)) = some (decide (j ≤ i)) := rfl
@[simp] theorem cmp_in {a b : RD} : cmpR .inn s a b = hasR s a b := rfl
@[simp] theorem cmp_nin {a b : RD} : cmpR .nin s a b = (hasR s a b).map (!·) := rfl
@[simp] theorem has_l {a : RD} : hasR s a (.l xs) = inR s a (.l xs) := rfl
@[simp] theorem has_tup {a : RD} : hasR s a (.d (.tup xs)) = inR s a (.d (.tup xs)) := rfl
@[simp] theorem has_lf {a : RD} : hasR s a (.d (.lf xs)) = inR s a (.d (.lf xs)) := rfl
@[simp] theorem has_str {a : RD} : hasR s a (.d (.str x)) = inR s a (.d (.str x)) := rfl
theorem dct_obj {k : Nat} : dctAt s (.d (.obj k)) = match s[k]? with
    | some (.dct kvs) => if dK kvs = true then some kvs else none
    | _ => none := by
  have e : anyD s (.d (.obj k)) = match s[k]? with | some (.dct kvs) => some kvs | _ => none := rfl
  unfold dctAt
  rw [e]
  cases s[k]? with
  | none => rfl
  | some o => cases o <;> rfl
@[simp] theorem has_obj {k : Nat} {a : RD} : hasR s a (.d (.obj k)) = match s[k]? with
    | some (.dct kvs) => if dK kvs = true then (keyR a).map fun k => (dlk kvs k).isSome else inR s a (.d (.obj k))
    | _ => inR s a (.d (.obj k)) := by
  unfold hasR
  rw [dct_obj]
  cases s[k]? with
  | none => rfl
  | some o => cases o with
    | lst xs => rfl
    | dct kvs =>
      simp only
      by_cases h : dK kvs = true
      · rw [if_pos h, if_pos h]
      · rw [if_neg h, if_neg h]
@[simp] theorem key_int : keyR (.d (.int i)) = some (.inl i) := rfl
@[simp] theorem key_str : keyR (.d (.str x)) = some (.inr x) := rfl
@[simp] theorem cmp_is {a b : RD} : cmpR .is s a b = isR a b := rfl
@[simp] theorem cmp_isn {a b : RD} : cmpR .isn s a b = (isR a b).map (!·) := rfl
@[simp] theorem is_bl {a b : Bool} : isR (.d (.bl a)) (.d (.bl b)) = some (decide (a = b)) := rfl
@[simp] theorem is_dn {d : D} : isR (.d d) (.d .non) = some (match d with | .non => true | _ => false) := rfl
@[simp] theorem kin_str {kvs : List (Str × Int)} : kinR kvs (.d (.str x)) = some (kvs.lookup x).isSome := rfl
@[simp] theorem kix_str {kvs : List (Str × Int)} : kixR kvs (.d (.str x)) = (kvs.lookup x).map fun i => .d (.int i) := rfl
theorem int_beq : (i == j) = decide (i = j) := by by_cases h : i = j <;> simp [h]
theorem str_beq : (x == y) = decide (x = y) := by by_cases h : x = y <;> simp [h]
@[simp] theorem eq_int : eqR s (.d (.int i)) (.d (.int j)) = some (decide (i = j)) := by
  show (if SeqAt.shaped (.int i) = true ∧ SeqAt.shaped (.int j) = true then some (PyData.eqv (.int i) (.int j)) else none) = _
  rw [if_pos ⟨rfl, rfl⟩, ← int_beq]
  simp only [PyData.eqv]
theorem sh_str (h : PyData.canLay0 (.str x) = true) : SeqAt.shaped (.str x) = true := by
  unfold SeqAt.shaped
  rw [h]
  rfl
@[simp] theorem eq_str (hx : PyData.canLay0 (.str x) = true) (hy : PyData.canLay0 (.str y) = true) : eqR s (.d (.str x)) (.d (.str y)) = some (decide (x = y)) := by
  show (if SeqAt.shaped (.str x) = true ∧ SeqAt.shaped (.str y) = true then some (PyData.eqv (.str x) (.str y)) else none) = _
  rw [if_pos ⟨sh_str hx, sh_str hy⟩, ← str_beq]
  simp only [PyData.eqv]
@[simp] theorem asL_l : asL s (.l xs) = some xs := rfl
@[simp] theorem asL_lf : asL s (.d (.lf xs)) = some xs := rfl
@[simp] theorem asL_obj {k : Nat} : asL s (.d (.obj k)) = lstAt s k := rfl
@[simp] theorem asL_tup : asL s (.d (.tup xs)) = none := rfl
@[simp] theorem asM_l : asM s (.l xs) = some xs := rfl
@[simp] theorem asM_obj {k : Nat} : asM s (.d (.obj k)) = lstAt s k := rfl
@[simp] theorem asQ_l : asQ s (.l xs) = some xs := rfl
@[simp] theorem asQ_lf : asQ s (.d (.lf xs)) = some xs := rfl
@[simp] theorem asQ_tup : asQ s (.d (.tup xs)) = some xs := rfl
@[simp] theorem asQ_obj {k : Nat} : asQ s (.d (.obj k)) = lstAt s k := rfl
theorem lstAt_of {k : Nat} (h : s[k]? = some (.lst xs)) : lstAt s k = some xs := by unfold lstAt; rw [h]
@[simp] theorem lstAt_eq {k : Nat} : lstAt s k = match s[k]? with
    | some (.lst xs) => some xs
    | _ => none := rfl
@[simp] theorem isLst_of {k : Nat} : isLstB s (.obj k) = (lstAt s k).isSome := rfl
theorem cat_l {a b : RD} (h1 : asL s a = some xs) (h2 : asL s b = some ys) (h : xs.length + ys.length ≤ sizeLine) : binR .add s a b = some (.l (xs ++ ys)) := by
  have key : (match asL s a, asL s b with | some xs, some ys => if Bop.add = .add then catR xs ys .l else none | _, _ => none) = some (.l (xs ++ ys)) := by
    rw [h1, h2]
    show (if Bop.add = .add then catR xs ys .l else none) = _
    rw [if_pos rfl]; unfold catR; rw [if_pos h]
  cases a with
  | l z => exact key
  | m z => cases h1
  | d z => cases z with
    | obj k => exact key
    | lf k => exact key
    | _ => cases h1
@[simp] theorem ix_tup : ixR s (.d (.tup xs)) (.d (.int i)) = (atI xs i).map .d := rfl
@[simp] theorem ix_l : ixR s (.l xs) (.d (.int i)) = (atI xs i).map .d := rfl
@[simp] theorem ix_lf : ixR s (.d (.lf xs)) (.d (.int i)) = (atI xs i).map .d := rfl
@[simp] theorem ix_obj {k : Nat} : ixR s (.d (.obj k)) (.d (.int i)) = match s[k]? with
    | some (.lst xs) => (atI xs i).map .d
    | some (.dct kvs) => if dK kvs = true then (dlk kvs (.inl i)).map .d else none
    | none => none := by
  show ixR1 _ _ _ = _
  unfold ixR1
  rw [dct_obj]
  cases e : s[k]? with
  | none => show (lstAt s k).bind _ = _; unfold lstAt; rw [e]; rfl
  | some o => cases o with
    | lst xs => show (lstAt s k).bind _ = _; unfold lstAt; rw [e]; rfl
    | dct kvs =>
      simp only
      by_cases h : dK kvs = true
      · rw [if_pos h, if_pos h]; rfl
      · rw [if_neg h, if_neg h]; show (lstAt s k).bind _ = _; unfold lstAt; rw [e]; rfl
@[simp] theorem ix_objs {k : Nat} : ixR s (.d (.obj k)) (.d (.str x)) = match s[k]? with
    | some (.dct kvs) => if dK kvs = true then (dlk kvs (.inr x)).map .d else none
    | _ => none := by
  show ixR1 _ _ _ = _
  unfold ixR1
  rw [dct_obj]
  cases e : s[k]? with
  | none => rfl
  | some o => cases o with
    | lst xs => rfl
    | dct kvs =>
      simp only
      by_cases h : dK kvs = true
      · rw [if_pos h, if_pos h]; rfl
      · rw [if_neg h, if_neg h]; rfl
@[simp] theorem its_tup : itsR s (.d (.tup xs)) = some ⟨xs, none⟩ := rfl
@[simp] theorem its_lf : itsR s (.d (.lf xs)) = some ⟨xs, none⟩ := rfl
@[simp] theorem its_ld {ks : List D} : itsR s (.d (.ld ks xs)) = some ⟨ks, none⟩ := rfl
@[simp] theorem its_l : itsR s (.l xs) = some ⟨xs, none⟩ := rfl
@[simp] theorem its_any {k : Nat} : itsR s (.d (.obj k)) = match s[k]? with
    | some (.lst xs) => some ⟨xs, some (k, xs)⟩
    | _ => none := rfl
theorem its_obj {k : Nat} (h : s[k]? = some (.lst xs)) : itsR s (.d (.obj k)) = some ⟨xs, some (k, xs)⟩ := by unfold itsR; simp only; rw [h]
@[simp] theorem tr_bl {t : Bool} : truthR s (.d (.bl t)) = some t := rfl
theorem set_r {k : Nat} {z : Nat} (h : s[k]? = some (.lst xs)) (hi : ixN xs.length i = some z) : setR (.obj k) (.int i) d s = .ok () (s.set k (.lst (xs.set z d))) := by
  unfold setR
  simp only
  rw [h]
  simp only
  rw [hi]
@[simp] theorem setR_any {k : Nat} : setR (.obj k) (.int i) d s = match s[k]? with
    | some (.lst xs) => (match ixN xs.length i with
      | some z => .ok () (s.set k (.lst (xs.set z d)))
      | none => .no)
    | some (.dct kvs) => if kvs.length < sizeLine ∧ dK kvs = true then .ok () (s.set k (.dct (dput kvs (.inl i) d))) else .no
    | none => .no := by
  unfold setR
  cases e : s[k]? with
  | none => simp only [e]
  | some o => cases o <;> (simp only [e, keyK]; try rfl)
@[simp] theorem setR_str {k : Nat} : setR (.obj k) (.str x) d s = match s[k]? with
    | some (.dct kvs) => if kvs.length < sizeLine ∧ dK kvs = true then .ok () (s.set k (.dct (dput kvs (.inr x) d))) else .no
    | _ => .no := by
  unfold setR
  cases e : s[k]? with
  | none => simp only [e]
  | some o => cases o <;> simp only [e, keyK]
theorem set_r0 {k : Nat} {z : D} {r : List D} (h : s[k]? = some (.lst (z :: r))) : setR (.obj k) (.int 0) d s = .ok () (s.set k (.lst (d :: r))) := set_r (z := 0) h (by unfold ixN; simp)
theorem set_r1 {k : Nat} {z y : D} {r : List D} (h : s[k]? = some (.lst (z :: y :: r))) : setR (.obj k) (.int 1) d s = .ok () (s.set k (.lst (z :: d :: r))) := set_r (z := 1) h (by
  unfold ixN
  have e : (1 : Int) < ((z :: y :: r).length : Nat) := by simp only [List.length_cons]; omega
  rw [if_pos (by decide), if_pos e]; rfl)
theorem mul_small (h1 : 0 ≤ i) (h2 : i < 18446744073709551616) : CMul i j := .inl ⟨by omega, by omega⟩
theorem mul_const (h1 : -18446744073709551616 < j) (h2 : j < 18446744073709551616) : CMul i j := .inr ⟨by omega, by omega⟩
theorem div_small (h1 : 0 < j) (h2 : j < 1073741824) : CDivN i j := ⟨by omega, by omega⟩
@[simp] theorem max_int : b2R .max s (.d (.int i)) (.d (.int j)) = some (.d (.int (if j > i then j else i))) := rfl
@[simp] theorem min_int : b2R .min s (.d (.int i)) (.d (.int j)) = some (.d (.int (if j < i then j else i))) := rfl
@[simp] theorem small_le {n : Nat} : ((n : Nat) ≤ sizeLine) = (n ≤ 16777216) := by rw [sizeLine_eq]
end
theorem isin_lst {s : Sto} {k : Nat} {xs : List D} {t : Ty} (h : s[k]? = some (.lst xs)) : isinR s t (.d (.obj k)) = some (decide (t = .list)) := by
  show (match dctAt s (.d (.obj k)) with | some _ => some (decide (t = Ty.dict)) | none => (lstAt s k).map fun _ => decide (t = Ty.list)) = _
  rw [dct_obj, h, lstAt_of h]; rfl
theorem len_lst {s : Sto} {k : Nat} {xs : List D} (h : s[k]? = some (.lst xs)) : b1R .len s (.d (.obj k)) = some (.d (.int xs.length)) := by
  show (match dctAt s (.d (.obj k)) with | some kvs => some (RD.d (.int (kvs.length : Nat))) | none => (asQ s (.d (.obj k))).map fun (xs : List D) => RD.d (.int (xs.length : Nat))) = _
  rw [dct_obj, h, asQ_obj, lstAt_of h]; rfl
/-! calls -/
def finK (n : Nat) (f : Fl) (_ : Loc) (s : Sto) : Res RD := match f with
  | .nx => fin n (.d .non) s
  | .rt d => fin n d s
  | _ => .no
@[simp ↓] theorem fin_nx {n : Nat} {l : Loc} {s : Sto} : finK n .nx l s = fin n (.d .non) s := rfl
@[simp ↓] theorem fin_rt {n : Nat} {l : Loc} {s : Sto} {d : RD} : finK n (.rt d) l s = fin n d s := rfl
theorem call_at {T : Tab} {n i : Nat} {F : Fn} {ds : List D} {s : Sto} (h : T.fns[i]? = some F) (hl : ds.length = F.ps.length) : callN T (n + 1) i ds s = sk (callN T n) T.gc F.body (ds.map some ++ List.replicate (F.ns.length - ds.length) none) s (finK s.length) := by
  unfold callN
  rw [h]
  show runFn _ _ _ _ _ = _
  unfold runFn
  rw [if_pos hl]
  rfl
/-- everything in the store leans on the store alone -/
def Clo (s : Sto) : Prop := s.all (Ob.lt s.length) = true
mutual
theorem lt_le {m n : Nat} (h : m ≤ n) : ∀ d : D, d.lt m = true → d.lt n = true
  | .non, _ => rfl
  | .bl _, _ => rfl
  | .int _, _ => rfl
  | .str _, _ => rfl
  | .tup xs, q => by unfold D.lt at *; exact ltAll_le h xs q
  | .lf xs, q => by unfold D.lt at *; exact ltAll_le h xs q
  | .ld ks vs, q => by
    unfold D.lt at *
    rw [Bool.and_eq_true] at *
    exact ⟨ltAll_le h ks q.1, ltAll_le h vs q.2⟩
  | .obj i, q => by unfold D.lt at *; exact decide_eq_true (Nat.lt_of_lt_of_le (of_decide_eq_true q) h)
theorem ltAll_le {m n : Nat} (h : m ≤ n) : ∀ ds : List D, D.ltAll m ds = true → D.ltAll n ds = true
  | [], _ => rfl
  | d :: r, q => by
    unfold D.ltAll at *
    rw [Bool.and_eq_true] at *
    exact ⟨lt_le h d q.1, ltAll_le h r q.2⟩
end
theorem ob_le {m n : Nat} (h : m ≤ n) {o : Ob} (q : o.lt m = true) : o.lt n = true := by
  cases o with
  | lst xs => exact ltAll_le h xs q
  | dct kvs =>
    unfold Ob.lt at *
    rw [Bool.and_eq_true] at *
    exact ⟨ltAll_le h _ q.1, ltAll_le h _ q.2⟩
theorem Clo.push {s : Sto} {o : Ob} (h : Clo s) (q : o.lt (s.length + 1) = true) : Clo (s ++ [o]) := by
  unfold Clo at *
  rw [List.length_append, List.all_append, Bool.and_eq_true]
  refine ⟨?_, by simp [q]⟩
  rw [List.all_eq_true] at *
  exact fun x hx => ob_le (Nat.le_succ _) (h x hx)
theorem Clo.set {s : Sto} {o : Ob} {k : Nat} (h : Clo s) (q : o.lt s.length = true) : Clo (s.set k o) := by
  unfold Clo at *
  rw [List.length_set, List.all_eq_true] at *
  intro x hx
  rcases List.mem_or_eq_of_mem_set hx with z | z
  · exact h x z
  · rw [z]; exact q
/-- what a call leaves, where it made nothing that stays -/
def RD.lt (n : Nat) : RD → Bool
  | .d x => x.lt n
  | .l xs => D.ltAll n xs
  | .m kvs => (Ob.dct kvs).lt n
theorem fin_any {s s1 : Sto} {d : RD} (e : s1.take s.length = s) (h : Clo s) (q : d.lt s.length = true) : fin s.length d s1 = .ok d s := by
  unfold fin
  rw [e, if_pos (show s.all (Ob.lt s.length) = true from h)]
  cases d with
  | d x => simp only; rw [if_pos (show x.lt s.length = true from q)]
  | l xs => simp only; rw [if_pos (show D.ltAll s.length xs = true from q)]
  | m kvs => simp only; rw [if_pos (show (Ob.dct kvs).lt s.length = true from q)]
theorem fin_pure {s : Sto} {d : RD} (h : Clo s) (q : d.lt s.length = true) : fin s.length d s = .ok d s := fin_any List.take_length h q
/-- .. garbage behind -/
theorem fin_g {s g : Sto} {d : RD} (h : Clo s) (q : d.lt s.length = true) : fin s.length d (s ++ g) = .ok d s := fin_any List.take_left h q
theorem fin_set {s : Sto} {n : Nat} {d : RD} (hn : s.length = n) (h : Clo s) (q : d.lt n = true) : fin n d s = .ok d s := by rw [← hn] at q ⊢; exact fin_pure h q
/-- a list of the call's own -/
theorem fin_new {s g : Sto} {k : Nat} {xs : List D} (h : Clo s) (hk : s.length ≤ k) (ho : (s ++ g)[k]? = some (.lst xs)) (q : D.ltAll s.length xs = true) : fin s.length (.d (.obj k)) (s ++ g) = .ok (.l xs) s := by
  unfold fin
  have e : (s ++ g).take s.length = s := List.take_left
  rw [e, if_pos (show s.all (Ob.lt s.length) = true from h)]
  simp only
  rw [if_neg (by unfold D.lt; simp; exact hk)]
  rw [ho]
  simp only
  rw [if_pos q]
/-- a dict of the call's own -/
theorem fin_newD {s g : Sto} {k : Nat} {kvs : List (D × D)} (h : Clo s) (hk : s.length ≤ k) (ho : (s ++ g)[k]? = some (.dct kvs)) (q : (Ob.dct kvs).lt s.length = true) : fin s.length (.d (.obj k)) (s ++ g) = .ok (.m kvs) s := by
  unfold fin
  have e : (s ++ g).take s.length = s := List.take_left
  rw [e, if_pos (show s.all (Ob.lt s.length) = true from h)]
  simp only
  rw [if_neg (by unfold D.lt; simp; exact hk)]
  rw [ho]
  simp only
  rw [if_pos q]
end Nv

set_option Elab.async false
set_option maxRecDepth 100000
set_option autoImplicit false
set_option linter.all false
set_option maxHeartbeats 1000000
/-! NvP: tools for plain laws: values of a known form, comprehensions, loops, calls. -/
namespace Nv
open PySem PySem.Spec PyProof.Rows L2
theorem callK_of {β : Type} {cf : Nat → List D → Sto → Res RD} {f : Nat} {ds : List D} {s s' : Sto} {d : RD} (h : cf f ds s = .ok d s') (k : RD → Sto → Res β) : callK cf f ds s k = k d s' := by unfold callK; rw [h]; rfl
section
variable {s : Sto} {xs ys : List D} {t : Ty} {i : Int} {x : Str} {b : Bool} {d : D}
@[simp] theorem len_tup : b1R .len s (.d (.tup xs)) = some (.d (.int xs.length)) := rfl
@[simp] theorem len_l : b1R .len s (.l xs) = some (.d (.int xs.length)) := rfl
@[simp] theorem len_lf : b1R .len s (.d (.lf xs)) = some (.d (.int xs.length)) := rfl
theorem len_str (h : x.length ≤ sizeLine) : b1R .len s (.d (.str x)) = some (.d (.int x.length)) := by show (if x.length ≤ sizeLine then _ else none) = _; rw [if_pos h]
@[simp] theorem list_tup : b1R .list s (.d (.tup xs)) = some (.l xs) := rfl
@[simp] theorem list_l : b1R .list s (.l xs) = some (.l xs) := rfl
@[simp] theorem list_lf : b1R .list s (.d (.lf xs)) = some (.l xs) := rfl
@[simp] theorem tuple_tup : b1R .tuple s (.d (.tup xs)) = some (.d (.tup xs)) := rfl
@[simp] theorem tuple_l : b1R .tuple s (.l xs) = some (.d (.tup xs)) := rfl
@[simp] theorem tuple_lf : b1R .tuple s (.d (.lf xs)) = some (.d (.tup xs)) := rfl
@[simp] theorem int_bl : b1R .int s (.d (.bl b)) = some (.d (.int (if b = true then 1 else 0))) := rfl
@[simp] theorem int_int : b1R .int s (.d (.int i)) = some (.d (.int i)) := rfl
@[simp] theorem isin_tup : isinR s t (.d (.tup xs)) = some (decide (t = .tuple)) := rfl
@[simp] theorem isin_l : isinR s t (.l xs) = some (decide (t = .list)) := rfl
@[simp] theorem isin_lf : isinR s t (.d (.lf xs)) = some (decide (t = .list)) := rfl
@[simp] theorem isin_str : isinR s t (.d (.str x)) = some (decide (t = .str)) := rfl
@[simp] theorem isin_int : isinR s t (.d (.int i)) = some (decide (t = .int)) := rfl
@[simp] theorem isin_bl : isinR s t (.d (.bl b)) = some (decide (t = .bool ∨ t = .int)) := rfl
@[simp] theorem isin_non : isinR s t (.d .non) = some false := rfl
@[simp] theorem enum_l : i1R .enumerate s (.l xs) = some ⟨numbered 0 xs, none⟩ := rfl
@[simp] theorem enum_lf : i1R .enumerate s (.d (.lf xs)) = some ⟨numbered 0 xs, none⟩ := rfl
@[simp] theorem range_ok {j : Int} (h : small62 j) : i1R .range s (.d (.int j)) = some ⟨upTo 0 j.toNat, none⟩ := by unfold i1R; simp only; rw [if_pos h]
@[simp] theorem zip_ll : i2R .zip s (.l xs) (.l ys) = some ⟨zipD xs ys, none⟩ := rfl
@[simp] theorem zip_lf : i2R .zip s (.l xs) (.d (.lf ys)) = some ⟨zipD xs ys, none⟩ := rfl
@[simp] theorem zip_fl : i2R .zip s (.d (.lf xs)) (.l ys) = some ⟨zipD xs ys, none⟩ := rfl
@[simp] theorem zip_ff : i2R .zip s (.d (.lf xs)) (.d (.lf ys)) = some ⟨zipD xs ys, none⟩ := rfl
@[simp] theorem zip_tl : i2R .zip s (.d (.tup xs)) (.l ys) = some ⟨zipD xs ys, none⟩ := rfl
@[simp] theorem zip_tf : i2R .zip s (.d (.tup xs)) (.d (.lf ys)) = some ⟨zipD xs ys, none⟩ := rfl
theorem zip_to {k : Nat} (h : s[k]? = some (.lst ys)) : i2R .zip s (.d (.tup xs)) (.d (.obj k)) = some ⟨zipD xs ys, some (k, ys)⟩ := by
  have e : lstAt s k = some ys := lstAt_of h
  show (match some xs, lstAt s k, none, (lstAt s k).map fun xs => (k, xs) with
    | some xs, some ys, none, q => some (⟨zipD xs ys, q⟩ : Its)
    | some xs, some ys, some q, none => some ⟨zipD xs ys, some q⟩
    | _, _, _, _ => none) = _
  rw [e]; rfl
@[simp] theorem zip_tt : i2R .zip s (.d (.tup xs)) (.d (.tup ys)) = some ⟨zipD xs ys, none⟩ := rfl
@[simp] theorem sl_tup {lo hi : Option Int} : slR s (.d (.tup xs)) lo hi = some (.d (.tup (cutD xs lo hi))) := rfl
@[simp] theorem sl_l {lo hi : Option Int} : slR s (.l xs) lo hi = some (.l (cutD xs lo hi)) := rfl
@[simp] theorem sl_lf {lo hi : Option Int} : slR s (.d (.lf xs)) lo hi = some (.l (cutD xs lo hi)) := rfl
@[simp] theorem bin_ll (h : xs.length + ys.length ≤ sizeLine) : binR .add s (.l xs) (.l ys) = some (.l (xs ++ ys)) := cat_l rfl rfl h
@[simp] theorem bin_lf (h : xs.length + ys.length ≤ sizeLine) : binR .add s (.l xs) (.d (.lf ys)) = some (.l (xs ++ ys)) := cat_l rfl rfl h
@[simp] theorem bin_fl (h : xs.length + ys.length ≤ sizeLine) : binR .add s (.d (.lf xs)) (.l ys) = some (.l (xs ++ ys)) := cat_l rfl rfl h
@[simp] theorem bin_ff (h : xs.length + ys.length ≤ sizeLine) : binR .add s (.d (.lf xs)) (.d (.lf ys)) = some (.l (xs ++ ys)) := cat_l rfl rfl h
end
section
variable {xs : List D}
theorem cut_from {k : Nat} : cutD xs (some (k : Int)) none = xs.drop k := by
  unfold cutD
  rw [HT.sIx_nat, HT.sIx_none]
  by_cases h : k ≤ xs.length
  · rw [Nat.min_eq_left h, List.take_of_length_le (by rw [List.length_drop]; exact Nat.le_refl _)]
  · rw [Nat.min_eq_right (by omega), List.drop_eq_nil_of_le (Nat.le_refl _), List.drop_eq_nil_of_le (by omega)]; simp
theorem cut_to {k : Nat} : cutD xs none (some (k : Int)) = xs.take k := by
  unfold cutD
  rw [HT.sIx_nat, HT.sIx_none, List.drop_zero, Nat.sub_zero]
  by_cases h : k ≤ xs.length
  · rw [Nat.min_eq_left h]
  · rw [Nat.min_eq_right (by omega), List.take_of_length_le (Nat.le_refl _), List.take_of_length_le (by omega)]
@[simp] theorem cut_1 : cutD xs (some 1) none = xs.drop 1 := cut_from (k := 1)
@[simp] theorem cut_2 : cutD xs (some 2) none = xs.drop 2 := cut_from (k := 2)
@[simp] theorem cut_3 : cutD xs (some 3) none = xs.drop 3 := cut_from (k := 3)
@[simp] theorem cut_4 : cutD xs (some 4) none = xs.drop 4 := cut_from (k := 4)
@[simp] theorem cutt_1 : cutD xs none (some 1) = xs.take 1 := cut_to (k := 1)
@[simp] theorem cutt_2 : cutD xs none (some 2) = xs.take 2 := cut_to (k := 2)
@[simp] theorem cutt_3 : cutD xs none (some 3) = xs.take 3 := cut_to (k := 3)
theorem cut_mid {i j : Nat} : cutD xs (some (i : Int)) (some (j : Int)) = (xs.drop i).take (j - i) := by
  unfold cutD
  rw [HT.sIx_nat, HT.sIx_nat]
  by_cases h : i ≤ xs.length
  · rw [Nat.min_eq_left h]
    by_cases h2 : j ≤ xs.length
    · rw [Nat.min_eq_left h2]
    · rw [Nat.min_eq_right (show xs.length ≤ j by omega), List.take_of_length_le (by rw [List.length_drop]; exact Nat.le_refl _), List.take_of_length_le (by rw [List.length_drop]; omega)]
  · rw [Nat.min_eq_right (show xs.length ≤ i by omega), List.drop_eq_nil_of_le (Nat.le_refl _), List.drop_eq_nil_of_le (show xs.length ≤ i by omega)]; simp
end
section
variable {α β : Type} {cf : Nat → List D → Sto → Res RD} {g : Nat → Option D} {l : Loc} {s : Sto}
@[simp ↓] theorem bt_3 {t1 t2 t3 : Tg} {x y z : D} {f : Loc → Res β} : btK (bindT (.c t1 (.c t2 (.c t3 .n))) (.tup [x, y, z]) l) f = btK (bindT t1 x l) fun l1 => btK (bindT t2 y l1) fun l2 => btK (bindT t3 z l2) f := by
  have e : bindT (.c t1 (.c t2 (.c t3 .n))) (.tup [x, y, z]) l = (bindT t1 x l).bind fun l1 => (bindT t2 y l1).bind fun l2 => (bindT t3 z l2).bind some := by
    simp only [bindT, bindTs]
  rw [e]
  cases bindT t1 x l with
  | none => rfl
  | some l1 =>
    show btK ((bindT t2 y l1).bind fun l2 => (bindT t3 z l2).bind some) f = btK (bindT t2 y l1) _
    cases bindT t2 y l1 with
    | none => rfl
    | some l2 =>
      show btK ((bindT t3 z l2).bind some) f = btK (bindT t3 z l2) f
      cases bindT t3 z l2 <;> rfl
/-- what stands in one list, told of each of another -/
inductive All2 {α β : Type} (R : α → β → Prop) : List α → List β → Prop
  | nil : All2 R [] []
  | cons {a : α} {b : β} {as : List α} {bs : List β} : R a b → All2 R as bs → All2 R (a :: as) (b :: bs)
theorem All2.len {α β : Type} {R : α → β → Prop} {as : List α} {bs : List β} (h : All2 R as bs) : bs.length = as.length := by
  induction h with
  | nil => rfl
  | cons _ _ ih => rw [List.length_cons, List.length_cons, ih]
theorem All2.imp {α β : Type} {R S : α → β → Prop} {as : List α} {bs : List β} (h : All2 R as bs) (f : ∀ a b, R a b → S a b) : All2 S as bs := by
  induction h with
  | nil => exact .nil
  | cons r _ ih => exact .cons (f _ _ r) ih
theorem All2.map {α β : Type} {R : α → β → Prop} {f : α → β} : ∀ {as : List α}, (∀ a ∈ as, R a (f a)) → All2 R as (as.map f)
  | [], _ => .nil
  | a :: as, h => .cons (h a (.head _)) (All2.map fun x hx => h x (.tail _ hx))
theorem All2.zw {α β γ : Type} {R : γ → β → Prop} {f : α → β → γ} : ∀ {as : List α} {bs : List β}, as.length = bs.length → (∀ a ∈ as, ∀ b ∈ bs, R (f a b) b) → All2 R (List.zipWith f as bs) bs
  | [], [], _, _ => .nil
  | [], _ :: _, h, _ => by cases h
  | _ :: _, [], h, _ => by cases h
  | a :: as, b :: bs, h, q => .cons (q a (.head _) b (.head _)) (All2.zw (by simpa using h) fun x hx y hy => q x (.tail _ hx) y (.tail _ hy))
/-- a comprehension that changes nothing -/
theorem cp_all {tg : Tg} {src : Option (Nat × List D)} {c elt : Ex} (hs : srcOk src s) : ∀ {ds ys acc : List D}, acc.length + ds.length ≤ sizeLine →
    All2 (fun x y => ∀ (K1 : D → Sto → Res β) (K2 : Sto → Res β), btK (bindT tg x l) (fun l1 => evb cf g c l1 s fun t s1 => if t = true then evv cf g elt l1 s1 K1 else K2 s1) = K1 y s) ds ys →
      ∀ k : List D → Sto → Res β, cpK tg src (den cf g c).b (den cf g elt).v l ds acc s k = k (acc ++ ys) s
  | _, _, acc, _, .nil, k => by rw [cp_nil hs, List.append_nil]
  | x :: ds, y :: ys, acc, hl, .cons h t, k => by
    rw [List.length_cons] at hl
    rw [cp_cons hs (by omega) (h _ _), h, cp_all hs (by rw [List.length_append, List.length_singleton]; omega) t, List.append_assoc]
    rfl
/-- .. with a test -/
theorem cp_if {tg : Tg} {src : Option (Nat × List D)} {c elt : Ex} {p : D → Bool} {f : D → D} (hs : srcOk src s) : ∀ {ds acc : List D}, acc.length + ds.length ≤ sizeLine →
    (∀ x ∈ ds, ∀ (K1 : D → Sto → Res β) (K2 : Sto → Res β), btK (bindT tg x l) (fun l1 => evb cf g c l1 s fun t s1 => if t = true then evv cf g elt l1 s1 K1 else K2 s1) = if p x = true then K1 (f x) s else K2 s) →
      ∀ k : List D → Sto → Res β, cpK tg src (den cf g c).b (den cf g elt).v l ds acc s k = k (acc ++ (ds.filter p).map f) s
  | [], acc, _, _, k => by rw [cp_nil hs, List.filter_nil, List.map_nil, List.append_nil]
  | x :: ds, acc, hl, h, k => by
    rw [List.length_cons] at hl
    rw [cp_cons hs (by omega) (by rw [h x (.head _) (fun _ _ => .no) (fun _ => .no)]; split <;> rfl), h x (.head _)]
    cases hp : p x with
    | false => 
      rw [if_neg Bool.false_ne_true, cp_if hs (by omega) fun z hz => h z (.tail _ hz), List.filter_cons_of_neg (by simp [hp])]
    | true =>
      rw [if_pos rfl, cp_if hs (by rw [List.length_append, List.length_singleton]; omega) fun z hz => h z (.tail _ hz), List.filter_cons_of_pos hp, List.map_cons, List.append_assoc]
      rfl
/-- a loop whose turns all go on -/
theorem for_go {tg : Tg} {src : Option (Nat × List D)} {u : Sm} {I : List D → Loc → Sto → Prop} : ∀ {ds : List D} {l : Loc} {s : Sto}, I ds l s → (∀ ds l s, I ds l s → srcOk src s) →
    (∀ x ds l s, I (x :: ds) l s → ∃ l2 s2, I ds l2 s2 ∧ ∀ F : Fl → Loc → Sto → Res β, btK (bindT tg x l) (fun l1 => sk cf g u l1 s F) = F .nx l2 s2) →
      ∃ l2 s2, I [] l2 s2 ∧ ∀ j : Fl → Loc → Sto → Res β, forK tg src (sden cf g u) ds l s j = j .nx l2 s2
  | [], l, s, hi, hs, _ => ⟨l, s, hi, fun j => for_nil (hs _ _ _ hi)⟩
  | x :: ds, l, s, hi, hs, h => by
    obtain ⟨l2, s2, h2, e⟩ := h x ds l s hi
    obtain ⟨l3, s3, h3, e3⟩ := for_go h2 hs h
    refine ⟨l3, s3, h3, fun j => ?_⟩
    rw [for_cons (hs _ _ _ hi), e]
    exact e3 j
end
/-! what lies ahead of a place of the store -/
theorem Clo.lst {s : Sto} {k : Nat} {xs : List D} (h : Clo s) (e : s[k]? = some (.lst xs)) : D.ltAll s.length xs = true := List.all_eq_true.mp (show s.all (Ob.lt s.length) = true from h) _ (List.mem_of_getElem? e)
theorem ltAll_mem {n : Nat} : ∀ {xs : List D}, (∀ x ∈ xs, x.lt n = true) → D.ltAll n xs = true
  | [], _ => rfl
  | x :: r, h => by unfold D.ltAll; rw [h x (.head _), ltAll_mem fun y hy => h y (.tail _ hy)]; rfl
theorem lt_mem {n : Nat} : ∀ {xs : List D} {x : D}, D.ltAll n xs = true → x ∈ xs → x.lt n = true
  | y :: r, x, h, m => by
    unfold D.ltAll at h
    rw [Bool.and_eq_true] at h
    rcases List.mem_cons.mp m with e | m
    · rw [e]; exact h.1
    · exact lt_mem h.2 m
theorem at_mem {α : Type} {xs : List α} {i : Int} (h1 : 0 ≤ i) (h2 : i < xs.length) : ∃ x ∈ xs, atI xs i = some x := by
  obtain ⟨k, rfl⟩ := Int.eq_ofNat_of_zero_le h1
  have hk : k < xs.length := by omega
  exact ⟨xs[k], List.getElem_mem hk, atI_nat (List.getElem?_eq_getElem hk)⟩
theorem atI_map {α β : Type} {f : α → β} {xs : List α} {i : Int} : atI (xs.map f) i = (atI xs i).map f := by
  unfold atI
  rw [List.length_map]
  cases ixN xs.length i with
  | none => rfl
  | some j => show (xs.map f)[j]? = (xs[j]?).map f; rw [List.getElem?_map]
theorem small_of {j : Int} (h1 : -1000000 ≤ j) (h2 : j < 1000000) : small62 j := ⟨by omega, by omega⟩
theorem up_len : ∀ (n : Nat) (lo : Int), (upTo lo n).length = n
  | 0, _ => rfl
  | n + 1, lo => by rw [upTo, List.length_cons, up_len n]
theorem lt_strs {n : Nat} : ∀ xs : List Str, D.ltAll n (xs.map D.str) = true
  | [] => rfl
  | x :: r => by rw [List.map_cons]; unfold D.ltAll; rw [lt_strs r]; rfl
/-! a list of one's own in the store -/
theorem tuple_obj {s : Sto} {k : Nat} {xs : List D} (h : s[k]? = some (.lst xs)) : b1R .tuple s (.d (.obj k)) = some (.d (.tup xs)) := by show (asQ s (.d (.obj k))).map _ = _; rw [asQ_obj, lstAt_of h]; rfl
theorem ixN_nat {n i : Nat} (h : i < n) : ixN n (i : Int) = some i := by unfold ixN; rw [if_pos (by omega), if_pos (by omega), Int.toNat_natCast]
theorem mid_at {s g : Sto} {o : Ob} : (s ++ (o :: g))[s.length]? = some o := by rw [List.getElem?_append_right (Nat.le_refl _), Nat.sub_self]; rfl
theorem set_mid {s g : Sto} {o u : Ob} : (s ++ (o :: g)).set s.length u = s ++ (u :: g) := by rw [List.set_append_right _ _ (Nat.le_refl _), Nat.sub_self]; rfl
theorem isl_ok {s : Sto} {i : Nat} {xs : List D} (h : s[i]? = some (.lst xs)) : isLstB s (.obj i) = true := by
  rw [isLst_of, lstAt_of h]; rfl
theorem ext_ok {s : Sto} {i : Nat} {a : RD} {xs ys : List D} (h : s[i]? = some (.lst xs)) (h2 : asM s a = some ys) (hl : xs.length + ys.length ≤ sizeLine) : m1R .extend (.obj i) a s = .ok (.d .non) (s.set i (.lst (xs ++ ys))) := by
  unfold m1R
  simp only
  rw [h]
  simp only
  rw [h2]
  simp only
  rw [if_pos hl]
theorem app_ok {s : Sto} {i : Nat} {d : D} {xs : List D} (h : s[i]? = some (.lst xs)) (hl : xs.length < sizeLine) : m1R .append (.obj i) (.d d) s = .ok (.d .non) (s.set i (.lst (xs ++ [d]))) := by
  unfold m1R
  simp only
  rw [h]
  simp only
  rw [if_pos hl]
theorem setSl_ok {s : Sto} {i j : Nat} {xs ys : List D} {a b : Nat} (h : s[i]? = some (.lst xs)) (h2 : s[j]? = some (.lst ys)) (hne : i ≠ j) (h3 : a ≤ b) (h4 : b ≤ xs.length) (h5 : xs.length + ys.length ≤ sizeLine) : setSlR (.obj i) (.obj j) (a : Int) (b : Int) s = .ok () (s.set i (.lst (xs.take a ++ ys ++ xs.drop b))) := by
  unfold setSlR
  simp only
  rw [h, h2]
  simp only
  rw [if_pos ⟨hne, by omega, by omega, by omega, h5⟩, Int.toNat_natCast, Int.toNat_natCast]
/-! pots: lists of whole numbers that calls change; only the pot at p is other -/
def potL (is : List Int) : Ob := .lst (is.map D.int)
/-- the third cell -/
def third (s : Sto) (p : Nat) : Int := match s[p]? with
  | some (.lst [_, _, .int e]) => e
  | _ => 0
/-- the pot has changed, in any way; the pot has changed, but not its third cell -/
def Pa (k p : Nat) (s s' : Sto) : Prop := ∃ is : List Int, is.length = k ∧ s' = s.set p (potL is)
def Pc (k p : Nat) (s s' : Sto) : Prop := Pa k p s s' ∧ third s' p = third s p
theorem Pc.a {k p : Nat} {s s' : Sto} (h : Pc k p s s') : Pa k p s s' := h.1
theorem Pc.third {k p : Nat} {s s' : Sto} (h : Pc k p s s') : Nv.third s' p = Nv.third s p := h.2
theorem Pa.trans {k p : Nat} {s s1 s2 : Sto} (h : Pa k p s s1) (g : Pa k p s1 s2) : Pa k p s s2 := by
  obtain ⟨a, _, rfl⟩ := h
  obtain ⟨c, e, rfl⟩ := g
  exact ⟨c, e, by rw [List.set_set]⟩
theorem Pc.trans {k p : Nat} {s s1 s2 : Sto} (h : Pc k p s s1) (g : Pc k p s1 s2) : Pc k p s s2 := ⟨h.1.trans g.1, by rw [g.2, h.2]⟩
theorem third_at {s : Sto} {p : Nat} {a b e : Int} (h : s[p]? = some (.lst [.int a, .int b, .int e])) : third s p = e := by unfold third; rw [h]
theorem third_set {s : Sto} {p : Nat} {a b e : Int} (h : p < s.length) : third (s.set p (potL [a, b, e])) p = e := third_at (List.getElem?_set_self h)
theorem third_app {s g : Sto} {p : Nat} (h : p < s.length) : third (s ++ g) p = third s p := by unfold third; rw [List.getElem?_append_left h]
theorem Pc.mk3 {s : Sto} {p : Nat} {a b e x y : Int} (h : s[p]? = some (.lst [.int a, .int b, .int e])) : Pc 3 p s (s.set p (potL [x, y, e])) :=
  ⟨⟨_, rfl, rfl⟩, by rw [third_set (List.getElem?_eq_some_iff.mp h).1, third_at h]⟩
structure PotAt (k p : Nat) (s : Sto) : Prop where
  clo : Clo s
  at_ : ∃ is : List Int, is.length = k ∧ s[p]? = some (potL is)
section
variable {k p : Nat} {s s' : Sto}
theorem PotAt.lt (h : PotAt k p s) : p < s.length := by
  obtain ⟨is, _, e⟩ := h.at_
  exact (List.getElem?_eq_some_iff.mp e).1
theorem PotAt.reflA (h : PotAt k p s) : Pa k p s s := by
  obtain ⟨is, l, e⟩ := h.at_
  obtain ⟨hl, e2⟩ := List.getElem?_eq_some_iff.mp e
  exact ⟨is, l, by rw [← e2, List.set_getElem_self]⟩
theorem PotAt.refl (h : PotAt k p s) : Pc k p s s := ⟨h.reflA, rfl⟩
theorem lt_ints {n : Nat} : ∀ is : List Int, D.ltAll n (is.map D.int) = true
  | [] => rfl
  | x :: r => by rw [List.map_cons]; unfold D.ltAll; rw [lt_ints r]; rfl
theorem Pa.at_ (h : Pa k p s s') (g : PotAt k p s) : PotAt k p s' := by
  have hl := g.lt
  obtain ⟨is, l, rfl⟩ := h
  exact ⟨g.clo.set (lt_ints is), is, l, List.getElem?_set_self hl⟩
theorem Pc.at_ (h : Pc k p s s') (g : PotAt k p s) : PotAt k p s' := h.a.at_ g
theorem Pa.len (h : Pa k p s s') : s'.length = s.length := by
  obtain ⟨is, _, rfl⟩ := h
  exact List.length_set
theorem Pc.len (h : Pc k p s s') : s'.length = s.length := h.a.len
theorem PotAt.fin {r : RD} {n : Nat} (h : PotAt k p s) (hn : s.length = n) (q : r.lt n = true) : Nv.fin n r s = .ok r s := fin_set hn h.clo q
theorem PotAt.push {o : Ob} (h : PotAt k p s) (q : o.lt (s.length + 1) = true) : PotAt k p (s ++ [o]) := by
  have hl := h.lt
  obtain ⟨is, l, e⟩ := h.at_
  exact ⟨h.clo.push q, is, l, by rw [List.getElem?_append_left hl]; exact e⟩
/-- the end of a call that has changed the pot alone, and made things that go -/
theorem fin_pc {s1 s2 g : Sto} (hp : PotAt k p s) (h1 : Pc k p s s1) (h2 : Pc k p (s1 ++ g) s2) : ∃ s3, Pc k p s s3 ∧ ∀ d : RD, d.lt s.length = true → Nv.fin s.length d s2 = .ok d s3 := by
  obtain ⟨⟨is, l, rfl⟩, ht⟩ := h2
  have hl : p < s1.length := by rw [h1.len]; exact hp.lt
  have h3 : Pc k p s (s1.set p (potL is)) := h1.trans ⟨⟨is, l, rfl⟩, by
    rw [List.set_append_left _ _ hl, third_app (by rw [List.length_set]; exact hl), third_app hl] at ht
    exact ht⟩
  refine ⟨_, h3, fun d hd => ?_⟩
  rw [List.set_append_left _ _ hl, ← h3.len]
  exact fin_g (h3.at_ hp).clo (by rw [h3.len]; exact hd)
/-- a comprehension that changes the pot alone -/
theorem cp_pot {β : Type} {cf : Nat → List D → Sto → Res RD} {g : Nat → Option D} {l : Loc} {tg : Tg} {elt : Ex} {R : D → D → Prop} {src : Option (Nat × List D)} : ∀ {ds acc : List D} {s : Sto}, PotAt k p s → acc.length + ds.length ≤ sizeLine → (∀ s1, Pc k p s s1 → srcOk src s1) →
    (∀ x ∈ ds, ∀ s1, PotAt k p s1 → Pc k p s s1 → ∃ y s2, Pc k p s1 s2 ∧ R x y ∧ ∀ K1 : D → Sto → Res β, btK (bindT tg x l) (fun l1 => evv cf g elt l1 s1 K1) = K1 y s2) →
      ∃ ys s', Pc k p s s' ∧ All2 R ds ys ∧ ∀ k : List D → Sto → Res β, cpK tg src (den cf g .nil).b (den cf g elt).v l ds acc s k = k (acc ++ ys) s'
  | [], acc, s, hp, _, hs, _ => ⟨[], s, hp.refl, .nil, fun k => by rw [cp_nil (hs s hp.refl), List.append_nil]⟩
  | x :: ds, acc, s, hp, hl, hs, h => by
    obtain ⟨y, s1, p1, r1, e1⟩ := h x (.head _) s hp hp.refl
    rw [List.length_cons] at hl
    obtain ⟨ys, s2, p2, r2, e2⟩ := cp_pot (ds := ds) (acc := acc ++ [y]) (p1.at_ hp) (by rw [List.length_append, List.length_singleton]; omega) (fun s3 h3 => hs s3 (p1.trans h3)) fun z hz s4 h4 h5 => h z (.tail _ hz) s4 h4 (p1.trans h5)
    refine ⟨y :: ys, s2, p1.trans p2, .cons r1 r2, fun k => ?_⟩
    have e0 : ∀ (G : Sto → Res β) (F : D → Sto → Res β), btK (bindT tg x l) (fun l1 => evb cf g .nil l1 s fun t s1 => if t = true then evv cf g elt l1 s1 F else G s1) = F y s1 := fun G F => by
      rw [← e1 F]
      cases bindT tg x l with
      | none => rfl
      | some l1 =>
        show evb cf g .nil l1 s _ = evv cf g elt l1 s F
        rw [evb_nil, if_pos rfl]
    rw [cp_cons (hs s hp.refl) (by omega) (e0 (fun _ => .no) _), e0 (fun s1 => cpK tg src (den cf g .nil).b (den cf g elt).v l ds acc s1 k), e2, List.append_assoc]
    rfl
/-- steps one behind the other, with what each does to the store -/
inductive AllS {α β : Type} (R : α → β → Sto → Sto → Prop) : List α → List β → Sto → Sto → Prop
  | nil {s : Sto} : AllS R [] [] s s
  | cons {a : α} {b : β} {as : List α} {bs : List β} {s s1 s2 : Sto} : R a b s s1 → AllS R as bs s1 s2 → AllS R (a :: as) (b :: bs) s s2
theorem cp_potA {β : Type} {cf : Nat → List D → Sto → Res RD} {g : Nat → Option D} {l : Loc} {tg : Tg} {elt : Ex} {R : D → D → Sto → Sto → Prop} {src : Option (Nat × List D)} : ∀ {ds acc : List D} {s : Sto}, PotAt k p s → acc.length + ds.length ≤ sizeLine → (∀ s1, Pa k p s s1 → srcOk src s1) →
    (∀ x ∈ ds, ∀ s1, PotAt k p s1 → Pa k p s s1 → ∃ y s2, Pa k p s1 s2 ∧ R x y s1 s2 ∧ ∀ K1 : D → Sto → Res β, btK (bindT tg x l) (fun l1 => evv cf g elt l1 s1 K1) = K1 y s2) →
      ∃ ys s', Pa k p s s' ∧ AllS R ds ys s s' ∧ ∀ k : List D → Sto → Res β, cpK tg src (den cf g .nil).b (den cf g elt).v l ds acc s k = k (acc ++ ys) s'
  | [], acc, s, hp, _, hs, _ => ⟨[], s, hp.reflA, .nil, fun k => by rw [cp_nil (hs s hp.reflA), List.append_nil]⟩
  | x :: ds, acc, s, hp, hl, hs, h => by
    obtain ⟨y, s1, p1, r1, e1⟩ := h x (.head _) s hp hp.reflA
    rw [List.length_cons] at hl
    obtain ⟨ys, s2, p2, r2, e2⟩ := cp_potA (ds := ds) (acc := acc ++ [y]) (p1.at_ hp) (by rw [List.length_append, List.length_singleton]; omega) (fun s3 h3 => hs s3 (p1.trans h3)) fun z hz s4 h4 h5 => h z (.tail _ hz) s4 h4 (p1.trans h5)
    refine ⟨y :: ys, s2, p1.trans p2, .cons r1 r2, fun k => ?_⟩
    have e0 : ∀ (G : Sto → Res β) (F : D → Sto → Res β), btK (bindT tg x l) (fun l1 => evb cf g .nil l1 s fun t s1 => if t = true then evv cf g elt l1 s1 F else G s1) = F y s1 := fun G F => by
      rw [← e1 F]
      cases bindT tg x l with
      | none => rfl
      | some l1 =>
        show evb cf g .nil l1 s _ = evv cf g elt l1 s F
        rw [evb_nil, if_pos rfl]
    rw [cp_cons (hs s hp.reflA) (by omega) (e0 (fun _ => .no) _), e0 (fun s1 => cpK tg src (den cf g .nil).b (den cf g elt).v l ds acc s1 k), e2, List.append_assoc]
    rfl
/-- another list stays -/
theorem src_stay {s1 : Sto} {xs : List D} (hp : p < s.length) (h : Pc k p (s ++ [.lst xs]) s1) : srcOk (some (s.length, xs)) s1 := by
  obtain ⟨⟨is, _, rfl⟩, _⟩ := h
  show (((s ++ [.lst xs] : Sto).set p (potL is))[s.length]?) = some (.lst xs)
  rw [List.getElem?_set_ne (by omega), List.getElem?_append_right (Nat.le_refl _), Nat.sub_self]
  rfl
end
end Nv

set_option maxRecDepth 100000
set_option autoImplicit false
set_option linter.all false
set_option maxHeartbeats 1000000
/-! NvQ: plain facts of questions: data with heads and parts, parts at places, exchange at a place. No program here. -/
namespace Nv
open PySem PySem.Spec PyProof.Rows L2
/-! ### data that lays, so deep -/
def Sh (n : Nat) (d : D) : Prop := ∃ p, (∀ g, pyW g d = some p) ∧ PyData.canLay0 p = true ∧ PyData.depth p ≤ n
theorem Sh.mono {m n : Nat} {d : D} (h : Sh m d) (l : m ≤ n) : Sh n d := by
  obtain ⟨p, h1, h2, h3⟩ := h
  exact ⟨p, h1, h2, by omega⟩
theorem sh_int {n : Nat} {i : Int} : Sh n (.int i) := ⟨.int i, fun g => rfl, rfl, Nat.zero_le _⟩
theorem sh_bl {n : Nat} {b : Bool} : Sh n (.bl b) := ⟨.bool b, fun g => rfl, rfl, Nat.zero_le _⟩
theorem shs {n : Nat} {x : Str} (h : PyData.canLay0 (.str x) = true) : Sh n (.str x) := ⟨.str x, fun g => rfl, h, Nat.zero_le _⟩
theorem sh_all {n : Nat} : ∀ {ds : List D}, (∀ d ∈ ds, Sh n d) → ∃ ps, (∀ g, pyWs g ds = some ps) ∧ PyData.canLayAll0 ps = true ∧ PyData.depthAll ps ≤ n
  | [], _ => ⟨[], fun g => rfl, rfl, Nat.zero_le _⟩
  | d :: r, h => by
    obtain ⟨p, h1, h2, h3⟩ := h d (.head _)
    obtain ⟨ps, g1, g2, g3⟩ := sh_all fun x hx => h x (.tail _ hx)
    refine ⟨p :: ps, fun g => by unfold pyWs; rw [h1 g]; show ((pyWs g r).map _) = _; rw [g1 g]; rfl, ?_, ?_⟩
    · unfold PyData.canLayAll0; rw [h2, g2]; rfl
    · unfold PyData.depthAll; exact Nat.max_le.mpr ⟨h3, g3⟩
theorem sh_tup {n : Nat} {ds : List D} (h : ∀ d ∈ ds, Sh n d) : Sh (n + 1) (.tup ds) := by
  obtain ⟨ps, g1, g2, g3⟩ := sh_all h
  refine ⟨.tuple ps, fun g => by unfold pyW; rw [g1 g]; rfl, ?_, ?_⟩
  · unfold PyData.canLay0; exact g2
  · unfold PyData.depth; omega
theorem Sh.py {n : Nat} {d : D} (h : Sh n d) : ∃ p, (∀ s, pyR s (.d d) = some p) ∧ PyData.canLay0 p = true ∧ PyData.depth p ≤ n := by
  obtain ⟨p, h1, h2, h3⟩ := h
  exact ⟨p, fun s => by show pyN s 3 d = some p; unfold pyN; exact h1 _, h2, h3⟩
theorem shaped_of {p : PyData} (h1 : PyData.canLay0 p = true) (h2 : PyData.depth p ≤ 64) : SeqAt.shaped p = true := by
  unfold SeqAt.shaped
  rw [h1, decide_eq_true h2]; rfl
theorem eq_same {s : Sto} {d : D} (h : Sh 64 d) : eqR s (.d d) (.d d) = some true := by
  obtain ⟨p, h1, h2, h3⟩ := h.py
  unfold eqR
  rw [h1 s]
  show (if SeqAt.shaped p = true ∧ SeqAt.shaped p = true then some (PyData.eqv p p) else _) = _
  rw [if_pos ⟨shaped_of h2 h3, shaped_of h2 h3⟩, SeqAt.eqv_refl p h2]
/-! ### heads and parts -/
inductive Hd where
  | leaf (w : Str) (d : D) | rcd (ns : List Str) | mat (ns : List (Str × Str)) | fld (w n : Str) | tag (k : List D) (n : Str) | bnd (w n : Str) | pln (w : Str)
def mkD : Hd → List D → D
  | .leaf w d, _ => .tup [.str w, d]
  | .rcd ns, cs => .tup [.str "record", .tup (List.zipWith (fun n c => D.tup [.str n, c]) ns cs)]
  | .mat ns, cs => .tup [.str "match", cs.headD .non, .tup (List.zipWith (fun (n : Str × Str) c => D.tup [.str n.1, .str n.2, c]) ns cs.tail)]
  | .fld w n, cs => .tup [.str w, cs.headD .non, .str n]
  | .tag k n, cs => .tup [.str "tag", .tup (.str "choice" :: k), .str n, cs.headD .non]
  | .bnd w n, cs => .tup (.str w :: .str n :: cs)
  | .pln w, cs => .tup (.str w :: cs)
def lv (x : Str) : Prop := PyData.canLay0 (.str x) = true
def fits : Hd → Nat → Prop
  | .leaf w d, k => k = 0 ∧ w ∈ (["number", "text", "truth", "name", "empty"] : List Str) ∧ Sh 8 d
  | .rcd ns, k => k = ns.length ∧ k ≤ 3 ∧ ∀ n ∈ ns, lv n
  | .mat ns, k => k = ns.length + 1 ∧ k ≤ 4 ∧ ∀ n ∈ ns, lv n.1 ∧ lv n.2
  | .fld w n, k => k = 1 ∧ w ∈ (["field", "case"] : List Str) ∧ lv n
  | .tag ks n, k => k = 1 ∧ Sh 8 (.tup (.str "choice" :: ks)) ∧ lv n
  | .bnd w n, k => k = 2 ∧ w ∈ (["let", "for", "sum"] : List Str) ∧ lv n
  | .pln w, k => 1 ≤ k ∧ k ≤ 3 ∧ w ∈ (["one", "unlike", "not", "plus", "add", "times", "alike", "below", "both", "if"] : List Str)
def IsQ : Nat → D → Prop
  | 0, _ => False
  | n + 1, d => ∃ h cs, d = mkD h cs ∧ fits h cs.length ∧ ∀ c ∈ cs, IsQ n c
theorem IsQ.mono : ∀ {m n : Nat} {d : D}, IsQ m d → m ≤ n → IsQ n d
  | 0, _, _, h, _ => h.elim
  | m + 1, 0, _, _, l => absurd l (by omega)
  | m + 1, n + 1, _, ⟨h, cs, e, f, q⟩, l => ⟨h, cs, e, f, fun c hc => (q c hc).mono (Nat.le_of_succ_le_succ l)⟩
theorem zw_mem {α β γ : Type} {f : α → β → γ} : ∀ {xs : List α} {ys : List β} {z : γ}, z ∈ List.zipWith f xs ys → ∃ x ∈ xs, ∃ y ∈ ys, z = f x y
  | [], _, _, h => by simp at h
  | _ :: _, [], _, h => by simp at h
  | x :: xs, y :: ys, z, h => by
    rw [List.zipWith_cons_cons] at h
    rcases List.mem_cons.mp h with q | q
    · exact ⟨x, .head _, y, .head _, q⟩
    · obtain ⟨a, ha, b, hb, e⟩ := zw_mem q
      exact ⟨a, .tail _ ha, b, .tail _ hb, e⟩
theorem one_of {α : Type} {xs : List α} (h : xs.length = 1) : ∃ x, xs = [x] := by
  match xs, h with
  | [x], _ => exact ⟨x, rfl⟩
theorem two_of {α : Type} {xs : List α} (h : xs.length = 2) : ∃ x y, xs = [x, y] := by
  match xs, h with
  | [x, y], _ => exact ⟨x, y, rfl⟩
theorem lay_words : ∀ x ∈ (["number", "text", "truth", "name", "empty", "field", "case", "let", "for", "sum", "record", "match", "tag", "choice", "bag", "one", "unlike", "not", "plus", "add", "times", "alike", "below", "both", "if"] : List Str), PyData.canLay0 (.str x) = true := by decide +kernel
theorem sh_word {n : Nat} {x : Str} (h : x ∈ (["number", "text", "truth", "name", "empty", "field", "case", "let", "for", "sum", "record", "match", "tag", "choice", "bag", "one", "unlike", "not", "plus", "add", "times", "alike", "below", "both", "if"] : List Str)) : Sh n (.str x) := shs (lay_words x h)
theorem IsQ.sh : ∀ {n : Nat} {d : D}, IsQ n d → Sh (3 * n + 8) d
  | 0, _, h => h.elim
  | n + 1, _, ⟨h, cs, e, f, q⟩ => by
    subst e
    have hc : ∀ c ∈ cs, Sh (3 * n + 8) c := fun c m => (q c m).sh
    have e3 : 3 * (n + 1) + 8 = (3 * n + 10) + 1 := by omega
    rw [e3]
    cases h with
    | leaf w d =>
      obtain ⟨_, f2, f3⟩ := f
      refine sh_tup fun x hx => ?_
      rcases List.mem_cons.mp hx with e | hx
      · subst e
        refine sh_word ?_
        simp only [List.mem_cons, List.not_mem_nil, or_false] at f2 ⊢
        rcases f2 with e | e | e | e | e <;> simp [e]
      · rw [List.mem_singleton.mp hx]; exact f3.mono (by omega)
    | rcd ns =>
      obtain ⟨f1, f2, f3⟩ := f
      refine sh_tup fun x hx => ?_
      rcases List.mem_cons.mp hx with e | hx
      · subst e; exact sh_word (by decide)
      · rw [List.mem_singleton.mp hx]
        refine sh_tup (n := 3 * n + 9) fun y hy => ?_
        obtain ⟨a, ha, b, hb, rfl⟩ := zw_mem hy
        refine sh_tup (n := 3 * n + 8) fun z hz => ?_
        rcases List.mem_cons.mp hz with e | hz
        · subst e; exact shs (f3 a ha)
        · rw [List.mem_singleton.mp hz]; exact hc b hb
    | mat ns =>
      obtain ⟨f1, f2, f3⟩ := f
      match cs, f1, hc with
      | c :: cs, f1, hc =>
        refine sh_tup fun x hx => ?_
        rcases List.mem_cons.mp hx with e | hx
        · subst e; exact sh_word (by decide)
        rcases List.mem_cons.mp hx with e | hx
        · rw [e]; exact (hc c (.head _)).mono (by omega)
        · rw [List.mem_singleton.mp hx]
          refine sh_tup (n := 3 * n + 9) fun y hy => ?_
          obtain ⟨a, ha, b, hb, rfl⟩ := zw_mem hy
          refine sh_tup (n := 3 * n + 8) fun z hz => ?_
          rcases List.mem_cons.mp hz with e | hz
          · subst e; exact shs (f3 a ha).1
          rcases List.mem_cons.mp hz with e | hz
          · subst e; exact shs (f3 a ha).2
          · rw [List.mem_singleton.mp hz]; exact hc b (.tail _ hb)
    | fld w nm =>
      obtain ⟨f1, f2, f3⟩ := f
      obtain ⟨c, rfl⟩ := one_of f1
      refine sh_tup fun x hx => ?_
      rcases List.mem_cons.mp hx with e | hx
      · subst e
        refine sh_word ?_
        simp only [List.mem_cons, List.not_mem_nil, or_false] at f2 ⊢
        rcases f2 with e | e <;> simp [e]
      rcases List.mem_cons.mp hx with e | hx
      · rw [e]; exact (hc c (.head _)).mono (by omega)
      · rw [List.mem_singleton.mp hx]; exact shs f3
    | tag k nm =>
      obtain ⟨f1, f2, f3⟩ := f
      obtain ⟨c, rfl⟩ := one_of f1
      refine sh_tup fun x hx => ?_
      rcases List.mem_cons.mp hx with e | hx
      · subst e; exact sh_word (by decide)
      rcases List.mem_cons.mp hx with e | hx
      · subst e; exact f2.mono (by omega)
      rcases List.mem_cons.mp hx with e | hx
      · subst e; exact shs f3
      · rw [List.mem_singleton.mp hx]; exact (hc c (.head _)).mono (by omega)
    | bnd w nm =>
      obtain ⟨f1, f2, f3⟩ := f
      refine sh_tup fun x hx => ?_
      rcases List.mem_cons.mp hx with e | hx
      · subst e
        refine sh_word ?_
        simp only [List.mem_cons, List.not_mem_nil, or_false] at f2 ⊢
        rcases f2 with e | e | e <;> simp [e]
      rcases List.mem_cons.mp hx with e | hx
      · subst e; exact shs f3
      · exact (hc x hx).mono (by omega)
    | pln w =>
      obtain ⟨f1, f2, f3⟩ := f
      refine sh_tup fun x hx => ?_
      rcases List.mem_cons.mp hx with e | hx
      · subst e
        refine sh_word ?_
        simp only [List.mem_cons, List.not_mem_nil, or_false] at f3 ⊢
        rcases f3 with e | e | e | e | e | e | e | e | e | e <;> simp [e]
      · exact (hc x hx).mono (by omega)
/-! ### questions as trees -/
inductive Q where
  | node (h : Hd) (cs : List Q)
mutual
def Q.toD : Q → D
  | .node h cs => mkD h (toDs cs)
def toDs : List Q → List D
  | [] => []
  | c :: r => c.toD :: toDs r
end
theorem toDs_map : ∀ cs : List Q, toDs cs = cs.map Q.toD
  | [] => rfl
  | c :: r => by rw [toDs, toDs_map r]; rfl
def Q.kids : Q → List Q
  | .node _ cs => cs
def Q.hd : Q → Hd
  | .node h _ => h
theorem Q.eta (q : Q) : Q.node q.hd q.kids = q := by cases q; rfl
theorem toD_node (q : Q) : q.toD = mkD q.hd (q.kids.map Q.toD) := by
  cases q
  rw [Q.toD, toDs_map]; rfl
def Q.ok : Nat → Q → Prop
  | 0, _ => False
  | n + 1, q => fits q.hd q.kids.length ∧ ∀ c ∈ q.kids, Q.ok n c
theorem Q.ok.mono : ∀ {m n : Nat} {q : Q}, Q.ok m q → m ≤ n → Q.ok n q
  | 0, _, _, h, _ => h.elim
  | m + 1, 0, _, _, l => absurd l (by omega)
  | m + 1, n + 1, _, ⟨f, k⟩, l => ⟨f, fun c hc => (k c hc).mono (Nat.le_of_succ_le_succ l)⟩
theorem Q.ok.isQ : ∀ {n : Nat} {q : Q}, Q.ok n q → IsQ n q.toD
  | 0, _, h => h.elim
  | n + 1, q, ⟨f, k⟩ => ⟨q.hd, q.kids.map Q.toD, toD_node q, by rw [List.length_map]; exact f, fun c hc => by
      obtain ⟨x, hx, rfl⟩ := List.mem_map.mp hc
      exact (k x hx).isQ⟩
theorem Q.ok.sh {n : Nat} {q : Q} (h : Q.ok n q) : Sh (3 * n + 8) q.toD := h.isQ.sh
/-- the part at a place -/
def getAt : Q → List Nat → Option Q
  | q, [] => some q
  | q, i :: p => (q.kids[i]?).bind fun c => getAt c p
/-- with another one at a place -/
def put (o : Q) : Q → List Nat → Q
  | _, [] => o
  | q, i :: p => match q.kids[i]? with
    | some c => .node q.hd (q.kids.set i (put o c p))
    | none => q
theorem getAt_cons {q : Q} {i : Nat} {p : List Nat} {d : Q} (h : getAt q (i :: p) = some d) : ∃ c, q.kids[i]? = some c ∧ getAt c p = some d := by
  unfold getAt at h
  cases e : q.kids[i]? with
  | none => rw [e] at h; cases h
  | some c => rw [e] at h; exact ⟨c, rfl, h⟩
theorem put_cons {o q c : Q} {i : Nat} {p : List Nat} (h : q.kids[i]? = some c) : put o q (i :: p) = .node q.hd (q.kids.set i (put o c p)) := by
  rw [put]; rw [h]
theorem set_at {α : Type} {xs : List α} {i : Nat} {x y : α} (h : xs[i]? = some x) : (xs.set i y)[i]? = some y := List.getElem?_set_self (List.getElem?_eq_some_iff.mp h).1
theorem get_put {o : Q} : ∀ {p : List Nat} {q c : Q}, getAt q p = some c → getAt (put o q p) p = some o
  | [], _, _, _ => rfl
  | i :: p, q, c, h => by
    obtain ⟨d, e, g⟩ := getAt_cons h
    rw [put_cons e]
    show ((q.kids.set i (put o d p))[i]?).bind _ = _
    rw [set_at e]
    exact get_put g
theorem get_app : ∀ {p r : List Nat} {q c : Q}, getAt q p = some c → getAt q (p ++ r) = getAt c r
  | [], _, _, _, h => by cases h; rfl
  | i :: p, r, q, c, h => by
    obtain ⟨d, e, g⟩ := getAt_cons h
    show (q.kids[i]?).bind _ = _
    rw [e]
    exact get_app g
theorem put_own : ∀ {p : List Nat} {q c : Q}, getAt q p = some c → put c q p = q
  | [], _, _, h => by cases h; rfl
  | i :: p, q, c, h => by
    obtain ⟨d, e, g⟩ := getAt_cons h
    rw [put_cons e, put_own g]
    obtain ⟨hl, e2⟩ := List.getElem?_eq_some_iff.mp e
    rw [← e2, List.set_getElem_self]
    exact q.eta
theorem put_twice {o t : Q} : ∀ {p : List Nat} {q c : Q}, getAt q p = some c → put t (put o q p) p = put t q p
  | [], _, _, _ => rfl
  | i :: p, q, c, h => by
    obtain ⟨d, e, g⟩ := getAt_cons h
    rw [put_cons e, put_cons (o := t) e, put_cons (c := put o d p) (by exact set_at e), put_twice g]
    show Q.node q.hd ((q.kids.set i _).set i _) = _
    rw [List.set_set]
theorem get_other {o : Q} : ∀ {p r : List Nat} {q c : Q}, getAt q p = some c → ¬ p <+: r → ¬ r <+: p → getAt (put o q p) r = getAt q r
  | [], r, _, _, _, h, _ => absurd (List.nil_prefix) h
  | _ :: _, [], _, _, _, _, h => absurd (List.nil_prefix) h
  | i :: p, j :: r, q, c, h, n1, n2 => by
    obtain ⟨d, e, g⟩ := getAt_cons h
    rw [put_cons e]
    show ((q.kids.set i (put o d p))[j]?).bind _ = (q.kids[j]?).bind _
    by_cases hij : i = j
    · subst hij
      rw [set_at e, e]
      exact get_other g (fun z => n1 (List.cons_prefix_cons.mpr ⟨rfl, z⟩)) fun z => n2 (List.cons_prefix_cons.mpr ⟨rfl, z⟩)
    · rw [List.getElem?_set_ne hij]
theorem put_comm {o t : Q} : ∀ {p r : List Nat} {q c d : Q}, getAt q p = some c → getAt q r = some d → ¬ p <+: r → ¬ r <+: p → put t (put o q p) r = put o (put t q r) p
  | [], r, _, _, _, _, _, h, _ => absurd (List.nil_prefix) h
  | _ :: _, [], _, _, _, _, _, _, h => absurd (List.nil_prefix) h
  | i :: p, j :: r, q, c, d, h, h', n1, n2 => by
    obtain ⟨x, e, g⟩ := getAt_cons h
    obtain ⟨y, e', g'⟩ := getAt_cons h'
    by_cases hij : i = j
    · subst hij
      rw [e] at e'
      cases e'
      rw [put_cons e, put_cons (o := t) e, put_cons (c := put o x p) (by exact set_at e), put_cons (c := put t x r) (by exact set_at e)]
      show Q.node q.hd ((q.kids.set i _).set i _) = Q.node q.hd ((q.kids.set i _).set i _)
      rw [List.set_set, List.set_set, put_comm g g' (fun z => n1 (List.cons_prefix_cons.mpr ⟨rfl, z⟩)) fun z => n2 (List.cons_prefix_cons.mpr ⟨rfl, z⟩)]
    · rw [put_cons e, put_cons (o := t) e']
      rw [put_cons (c := y) (by show (q.kids.set i _)[j]? = _; rw [List.getElem?_set_ne hij]; exact e'), put_cons (c := x) (by show (q.kids.set j _)[i]? = _; rw [List.getElem?_set_ne (Ne.symm hij)]; exact e)]
      show Q.node q.hd ((q.kids.set i _).set j _) = Q.node q.hd ((q.kids.set j _).set i _)
      rw [List.set_comm _ _ hij]
theorem fits_hd {q : Q} {cs : List Q} (h : cs.length = q.kids.length) (f : fits q.hd q.kids.length) : fits (Q.node q.hd cs).hd (Q.node q.hd cs).kids.length := by
  show fits q.hd cs.length
  rw [h]; exact f
theorem ok_put {m : Nat} {o : Q} (ho : Q.ok m o) : ∀ {n : Nat} {p : List Nat} {q c : Q}, Q.ok n q → getAt q p = some c → Q.ok (n + m) (put o q p)
  | 0, _, _, _, h, _ => h.elim
  | n + 1, [], _, _, _, _ => ho.mono (by omega)
  | n + 1, i :: p, q, c, h, g => by
    obtain ⟨d, e, g⟩ := getAt_cons g
    obtain ⟨f, k⟩ := h
    rw [put_cons e, Nat.succ_add]
    refine ⟨fits_hd List.length_set f, fun x hx => ?_⟩
    rcases List.mem_or_eq_of_mem_set hx with z | z
    · exact (k x z).mono (by omega)
    · rw [z]
      exact ok_put ho (k d (List.mem_of_getElem? e)) g
theorem ok_get : ∀ {n : Nat} {p : List Nat} {q c : Q}, Q.ok n q → getAt q p = some c → Q.ok n c
  | 0, _, _, _, h, _ => h.elim
  | n + 1, [], _, _, h, g => by cases g; exact h
  | n + 1, i :: p, q, c, h, g => by
    obtain ⟨d, e, g⟩ := getAt_cons g
    exact (ok_get (h.2 d (List.mem_of_getElem? e)) g).mono (by omega)
/-! ### all places -/
mutual
def Q.pls : Q → List (List Nat)
  | .node _ cs => plss 0 cs ++ [[]]
def plss : Nat → List Q → List (List Nat)
  | _, [] => []
  | k, c :: r => c.pls.map (k :: ·) ++ plss (k + 1) r
end
theorem pls_node (q : Q) : q.pls = plss 0 q.kids ++ [[]] := by cases q; rw [Q.pls]; rfl
def Q.sz (q : Q) : Nat := q.pls.length
def szs : List Q → Nat
  | [] => 0
  | c :: r => c.sz + szs r
theorem plss_len : ∀ (k : Nat) (cs : List Q), (plss k cs).length = szs cs
  | _, [] => by rw [plss]; rfl
  | k, c :: r => by rw [plss, List.length_append, List.length_map, plss_len (k + 1) r]; rfl
theorem sz_node (q : Q) : q.sz = szs q.kids + 1 := by
  unfold Q.sz
  rw [pls_node, List.length_append, plss_len]; rfl
theorem szs_set : ∀ {cs : List Q} {i : Nat} {c d : Q}, cs[i]? = some c → szs (cs.set i d) + c.sz = szs cs + d.sz
  | [], _, _, _, h => by cases h
  | x :: r, 0, c, d, h => by
    cases h
    show d.sz + szs r + x.sz = x.sz + szs r + d.sz
    omega
  | x :: r, i + 1, c, d, h => by
    have := szs_set (cs := r) (i := i) (d := d) h
    show x.sz + szs (r.set i d) + c.sz = x.sz + szs r + d.sz
    omega
theorem sz_put {o : Q} : ∀ {p : List Nat} {q c : Q}, getAt q p = some c → (put o q p).sz + c.sz = q.sz + o.sz
  | [], q, c, h => by cases h; rw [put]; omega
  | i :: p, q, c, h => by
    obtain ⟨d, e, g⟩ := getAt_cons h
    have h1 := sz_put (o := o) g
    have h2 := szs_set (d := put o d p) e
    rw [put_cons e, sz_node, sz_node q]
    show szs (q.kids.set i (put o d p)) + 1 + c.sz = _
    omega
theorem sz_pos (q : Q) : 1 ≤ q.sz := by rw [sz_node]; omega
theorem szs_mem : ∀ {cs : List Q} {c : Q}, c ∈ cs → c.sz ≤ szs cs
  | _ :: _, _, .head _ => by show _ ≤ _ + _; omega
  | _ :: _, _, .tail _ h => by
    have := szs_mem h
    show _ ≤ _ + _; omega
theorem sz_kid {q c : Q} (h : c ∈ q.kids) : c.sz < q.sz := by
  rw [sz_node q]
  have := szs_mem h
  omega
theorem sz_get : ∀ {p : List Nat} {q c : Q}, getAt q p = some c → c.sz ≤ q.sz
  | [], _, _, h => by cases h; exact Nat.le_refl _
  | i :: p, q, c, h => by
    obtain ⟨d, e, g⟩ := getAt_cons h
    have := sz_get g
    have := sz_kid (List.mem_of_getElem? e)
    omega
theorem plss_at : ∀ {k : Nat} {cs : List Q} {p : List Nat}, p ∈ plss k cs → ∃ i c r, cs[i]? = some c ∧ p = (k + i) :: r ∧ r ∈ c.pls
  | _, [], _, h => by rw [plss] at h; cases h
  | k, x :: cs, p, h => by
    rw [plss] at h
    rcases List.mem_append.mp h with h | h
    · obtain ⟨r, hr, rfl⟩ := List.mem_map.mp h
      exact ⟨0, x, r, rfl, rfl, hr⟩
    · obtain ⟨i, c, r, e, rfl, hr⟩ := plss_at h
      exact ⟨i + 1, c, r, e, by rw [Nat.succ_add_eq_add_succ], hr⟩
theorem pls_at : ∀ {p : List Nat} {q : Q}, p ∈ q.pls → ∃ c, getAt q p = some c
  | [], q, _ => ⟨q, rfl⟩
  | i :: p, q, h => by
    rw [pls_node] at h
    rcases List.mem_append.mp h with h | h
    · obtain ⟨j, c, r, e, e2, hr⟩ := plss_at h
      rw [Nat.zero_add] at e2
      cases e2
      obtain ⟨d, hd⟩ := pls_at hr
      exact ⟨d, by show (q.kids[i]?).bind _ = _; rw [e]; exact hd⟩
    · exact absurd (List.mem_singleton.mp h) (by simp)
theorem fits_few {h : Hd} {k : Nat} (f : fits h k) : k ≤ 4 := by
  cases h <;> simp only [fits] at f <;> omega
theorem szs_le {b : Nat} : ∀ {cs : List Q}, (∀ c ∈ cs, c.sz ≤ b) → szs cs ≤ cs.length * b
  | [], _ => Nat.zero_le _
  | c :: r, h => by
    have h1 := h c (.head _)
    have h2 := szs_le fun x hx => h x (.tail _ hx)
    show c.sz + szs r ≤ _
    rw [List.length_cons, Nat.succ_mul]
    omega
def most : Nat → Nat
  | 0 => 0
  | n + 1 => 4 * most n + 1
theorem sz_most : ∀ {n : Nat} {q : Q}, Q.ok n q → q.sz ≤ most n
  | 0, _, h => h.elim
  | n + 1, q, ⟨f, k⟩ => by
    have h1 := szs_le (b := most n) fun c hc => sz_most (k c hc)
    have h2 := Nat.mul_le_mul_right (most n) (fits_few f)
    rw [sz_node, most]
    omega
/-- a place is no longer than the tree is deep -/
theorem at_len : ∀ {n : Nat} {p : List Nat} {q c : Q}, Q.ok n q → getAt q p = some c → p.length < n
  | 0, _, _, _, h, _ => h.elim
  | n + 1, [], _, _, _, _ => by rw [List.length_nil]; omega
  | n + 1, i :: p, q, c, h, g => by
    obtain ⟨d, e, g⟩ := getAt_cons g
    have := at_len (h.2 d (List.mem_of_getElem? e)) g
    rw [List.length_cons]; omega
/-! ### words among words -/
theorem pyN_strs {s : Sto} {n : Nat} : ∀ ws : List Str, (ws.map D.str).mapM (pyN s (n + 1)) = some (ws.map PyData.str)
  | [] => rfl
  | w :: r => by
    rw [List.map_cons, List.mapM_cons, pyN_strs r]
    rfl
theorem lay_strs : ∀ {ws : List Str}, (∀ w ∈ ws, lv w) → PyData.canLayAll0 (ws.map PyData.str) = true ∧ PyData.depthAll (ws.map PyData.str) = 0
  | [], _ => ⟨rfl, rfl⟩
  | w :: r, h => by
    obtain ⟨h1, h2⟩ := lay_strs fun x hx => h x (.tail _ hx)
    rw [List.map_cons]
    unfold PyData.canLayAll0 PyData.depthAll
    have h3 : PyData.canLay0 (.str w) = true := h w (.head _)
    rw [h1, h2, h3]
    exact ⟨rfl, rfl⟩
theorem any_strs {x : Str} : ∀ ws : List Str, ((ws.map PyData.str).any fun z => PyData.eqv z (.str x)) = decide (x ∈ ws)
  | [] => rfl
  | w :: r => by
    rw [List.map_cons, List.any_cons, any_strs r]
    have e : PyData.eqv (.str w) (.str x) = decide (w = x) := by
      rw [← str_beq]; simp only [PyData.eqv]
    rw [e]
    by_cases h : w = x
    · subst h; simp
    · simp [h, Ne.symm h]
theorem in_strs {s : Sto} {x : Str} {ws : List Str} (hx : lv x) (hw : ∀ w ∈ ws, lv w) : inR s (.d (.str x)) (.d (.tup (ws.map D.str))) = some (decide (x ∈ ws)) ∧ inR s (.d (.str x)) (.l (ws.map D.str)) = some (decide (x ∈ ws)) := by
  have sx : SeqAt.shaped (.str x) = true := shaped_of hx (Nat.zero_le _)
  have sw : SeqAt.shaped (.list (ws.map PyData.str)) = true := by
    obtain ⟨h1, h2⟩ := lay_strs hw
    refine shaped_of (by unfold PyData.canLay0; exact h1) ?_
    unfold PyData.depth
    rw [h2]; decide
  have key : (match (some (ws.map D.str)).bind (fun ys => ys.mapM (pyN s 2)), pyR s (.d (.str x)) with
    | some qs, some x => if SeqAt.shaped x = true ∧ SeqAt.shaped (.list qs) = true then some (qs.any fun z => PyData.eqv z x) else none
    | _, _ => none) = some (decide (x ∈ ws)) := by
    show (match (ws.map D.str).mapM (pyN s 2), pyR s (.d (.str x)) with
      | some qs, some x => if SeqAt.shaped x = true ∧ SeqAt.shaped (.list qs) = true then some (qs.any fun z => PyData.eqv z x) else none
      | _, _ => none) = _
    rw [pyN_strs]
    show (if SeqAt.shaped (.str x) = true ∧ SeqAt.shaped (.list (ws.map PyData.str)) = true then some ((ws.map PyData.str).any fun z => PyData.eqv z (.str x)) else none) = _
    rw [if_pos ⟨sx, sw⟩, any_strs]
  exact ⟨key, key⟩
end Nv

set_option Elab.async false
set_option maxRecDepth 100000
set_option autoImplicit false
set_option linter.all false
set_option maxHeartbeats 1000000
/-! NvK: names, kinds, questions as drawn. No program here. -/
namespace Nv
open PySem PySem.Spec PyProof.Rows L2
/-- one to eight small letters -/
def letter (n : Nat) : Prop := 97 ≤ n ∧ n ≤ 122
instance (n : Nat) : Decidable (letter n) := by unfold letter; infer_instance
def NameOk (x : Str) : Prop := 1 ≤ x.cps.toList.length ∧ x.cps.toList.length ≤ 8 ∧ ∀ n ∈ x.cps.toList, letter n
instance (x : Str) : Decidable (NameOk x) := by unfold NameOk; infer_instance
def SignsOk (x : Str) : Prop := x.cps.toList.length ≤ 60 ∧ ∀ n ∈ x.cps.toList, 32 ≤ n ∧ n ≤ 126 ∧ n ≠ 37
theorem lv_of {x : Str} (h : ∀ n ∈ x.cps.toList, n < 1114112) : lv x := by
  show PyData.canLay0 (.str x) = true
  unfold PyData.canLay0 PyData.strOk
  rw [← Array.all_toList, List.all_eq_true]
  exact fun n hn => decide_eq_true (h n hn)
theorem NameOk.lv {x : Str} (h : NameOk x) : lv x := lv_of fun n hn => by have := (h.2.2 n hn).2; omega
theorem SignsOk.lv {x : Str} (h : SignsOk x) : lv x := lv_of fun n hn => by have := (h.2 n hn).2; omega
theorem str_len (x : Str) : x.length = x.cps.toList.length := by rw [Array.length_toList]; rfl
theorem app_cps (a b : Str) : (a ++ b).cps.toList = a.cps.toList ++ b.cps.toList := by
  show (a.cps ++ b.cps).toList = _
  rw [Array.toList_append]
def ltS (a b : Str) : Prop := a.cps.toList < b.cps.toList
theorem str_ext {a b : Str} (h : a.cps.toList = b.cps.toList) : a = b := by
  cases a; cases b
  exact congrArg Str.mk (Array.toList_inj.mp h)
/-- sorted, unlike -/
def Srt (xs : List Str) : Prop := xs.Pairwise ltS
theorem lt_of_le_ne {a b : Str} (h : leS a b = true) (n : a ≠ b) : ltS a b := by
  have h : a.cps.toList ≤ b.cps.toList := of_decide_eq_true h
  by_cases q : a.cps.toList < b.cps.toList
  · exact q
  · exact absurd (str_ext (List.le_antisymm h (List.not_lt.mp q))) n
theorem le_total (a b : Str) : (leS a b || leS b a) = true := by
  rcases List.le_total a.cps.toList b.cps.toList with p | p <;> simp [leS, p]
theorem le_trans' (a b c : Str) (h : leS a b = true) (g : leS b c = true) : leS a c = true := decide_eq_true (List.le_trans (of_decide_eq_true h) (of_decide_eq_true g))
theorem pw_and {α : Type} {R S : α → α → Prop} {l : List α} (h : l.Pairwise R) (g : l.Pairwise S) : l.Pairwise fun a b => R a b ∧ S a b := by
  induction l with
  | nil => exact .nil
  | cons a l ih =>
    obtain ⟨h1, h2⟩ := List.pairwise_cons.mp h
    obtain ⟨g1, g2⟩ := List.pairwise_cons.mp g
    exact List.pairwise_cons.mpr ⟨fun b hb => ⟨h1 b hb, g1 b hb⟩, ih h2 g2⟩
theorem sort_srt {xs : List Str} (h : xs.Nodup) : Srt (xs.mergeSort leS) :=
  (pw_and (List.pairwise_mergeSort (le := leS) le_trans' le_total xs) ((List.mergeSort_perm xs leS).nodup_iff.mpr h)).imp fun ⟨a, b⟩ => lt_of_le_ne a b
/-! kinds -/
mutual
inductive Kd where
  | leaf (x : Str) | bag (k : Kd) | rcd (rs : Ks) | cho (rs : Ks)
inductive Ks where
  | nil | cons (n : Str) (k : Kd) (r : Ks)
end
mutual
def kD : Kd → D
  | .leaf x => .tup [.str x]
  | .bag k => .tup [.str "bag", kD k]
  | .rcd rs => .tup [.str "record", .tup (ksD rs)]
  | .cho rs => .tup [.str "choice", .tup (ksD rs)]
def ksD : Ks → List D
  | .nil => []
  | .cons n k r => .tup [.str n, kD k] :: ksD r
end
def Ks.names : Ks → List Str
  | .nil => []
  | .cons n _ r => n :: r.names
mutual
def flatK : Kd → Prop
  | .leaf _ => True
  | .bag _ => False
  | .rcd rs => flatKs rs
  | .cho rs => flatKs rs
def flatKs : Ks → Prop
  | .nil => True
  | .cons _ k r => flatK k ∧ flatKs r
end
mutual
def gk : Kd → Prop
  | .leaf x => x ∈ (["number", "text", "truth"] : List Str)
  | .bag k => gk k
  | .rcd rs => gks rs ∧ Srt rs.names ∧ rs.names.length ≤ 8
  | .cho rs => gks rs ∧ Srt rs.names ∧ flatKs rs ∧ rs.names ≠ [] ∧ rs.names.length ≤ 8
def gks : Ks → Prop
  | .nil => True
  | .cons n k r => NameOk n ∧ gk k ∧ gks r
end
mutual
def dep : Kd → Nat
  | .leaf _ => 0
  | .bag k => dep k + 1
  | .rcd rs => deps rs + 1
  | .cho rs => deps rs + 1
def deps : Ks → Nat
  | .nil => 0
  | .cons _ k r => max (dep k) (deps r)
end
def KsAll (P : Kd → Prop) : Ks → Prop
  | .nil => True
  | .cons _ k r => P k ∧ KsAll P r
mutual
theorem kD_sh : ∀ k : Kd, gk k → Sh (3 * dep k + 1) (kD k)
  | .leaf x, h => by
    refine sh_tup (n := 0) fun d hd => ?_
    rw [List.mem_singleton.mp hd]
    refine sh_word ?_
    have h : x ∈ (["number", "text", "truth"] : List Str) := h
    simp only [List.mem_cons, List.not_mem_nil, or_false] at h ⊢
    rcases h with e | e | e <;> simp [e]
  | .bag k, h => by
    have e : 3 * dep (.bag k) + 1 = (3 * dep k + 3) + 1 := by show 3 * (dep k + 1) + 1 = _; omega
    rw [e]
    refine sh_tup fun d hd => ?_
    rcases List.mem_cons.mp hd with e | hd
    · subst e; exact sh_word (by decide)
    · rw [List.mem_singleton.mp hd]; exact (kD_sh k h).mono (by omega)
  | .rcd rs, h => by
    have e : 3 * dep (.rcd rs) + 1 = ((3 * deps rs + 2) + 1) + 1 := by show 3 * (deps rs + 1) + 1 = _; omega
    rw [e]
    refine sh_tup fun d hd => ?_
    rcases List.mem_cons.mp hd with e | hd
    · subst e; exact sh_word (by decide)
    · rw [List.mem_singleton.mp hd]
      exact sh_tup (ksD_sh rs h.1)
  | .cho rs, h => by
    have e : 3 * dep (.cho rs) + 1 = ((3 * deps rs + 2) + 1) + 1 := by show 3 * (deps rs + 1) + 1 = _; omega
    rw [e]
    refine sh_tup fun d hd => ?_
    rcases List.mem_cons.mp hd with e | hd
    · subst e; exact sh_word (by decide)
    · rw [List.mem_singleton.mp hd]
      exact sh_tup (ksD_sh rs h.1)
theorem ksD_sh : ∀ rs : Ks, gks rs → ∀ d ∈ ksD rs, Sh (3 * deps rs + 2) d
  | .nil, _, d, hd => by unfold ksD at hd; cases hd
  | .cons n k r, h, d, hd => by
    obtain ⟨h1, h2, h3⟩ := h
    have hm : deps (.cons n k r) = max (dep k) (deps r) := rfl
    unfold ksD at hd
    rcases List.mem_cons.mp hd with e | hd
    · rw [e]
      refine sh_tup (n := 3 * deps (.cons n k r) + 1) fun x hx => ?_
      rcases List.mem_cons.mp hx with e | hx
      · rw [e]; exact shs h1.lv
      · rw [List.mem_singleton.mp hx]; exact (kD_sh k h2).mono (by omega)
    · exact (ksD_sh r h3 d hd).mono (by omega)
end
/-- rows made of names -/
theorem rowsK {P : Kd → Prop} : ∀ {ns : List Str} {ys : List D}, All2 (fun x y => ∃ n k, x = D.str n ∧ y = D.tup [.str n, kD k] ∧ P k) (ns.map D.str) ys → ∃ rs, ys = ksD rs ∧ rs.names = ns ∧ KsAll P rs
  | [], _, h => by
    cases h
    exact ⟨.nil, rfl, rfl, trivial⟩
  | n :: ns, _, h => by
    rw [List.map_cons] at h
    cases h with
    | cons h1 t =>
      obtain ⟨n', k, e1, rfl, hk⟩ := h1
      cases e1
      obtain ⟨rs, rfl, e2, h2⟩ := rowsK t
      exact ⟨.cons n k rs, rfl, by rw [Ks.names, e2], hk, h2⟩
theorem rows_gk {fl : Prop} : ∀ {rs : Ks} {d : Nat}, KsAll (fun k => gk k ∧ (fl → flatK k) ∧ dep k ≤ d) rs → (∀ n ∈ rs.names, NameOk n) → gks rs ∧ (fl → flatKs rs) ∧ deps rs ≤ d
  | .nil, d, _, _ => ⟨trivial, fun _ => trivial, Nat.zero_le _⟩
  | .cons n k r, d, h, hn => by
    obtain ⟨⟨h1, h2, h3⟩, h4⟩ := h
    obtain ⟨g1, g2, g3⟩ := rows_gk h4 fun x hx => hn x (by unfold Ks.names; exact .tail _ hx)
    exact ⟨⟨hn n (by unfold Ks.names; exact .head _), h1, g1⟩, fun f => ⟨h2 f, g2 f⟩, Nat.max_le.mpr ⟨h3, g3⟩⟩
/-! questions as drawn -/
def arity (w : Str) : Nat := if w ∈ (["one", "unlike", "not"] : List Str) then 1 else if w = "if" then 3 else 2
def ghd : Hd → Nat → Prop
  | .leaf w d, _ => (w = "number" ∧ ∃ i : Int, d = .int i ∧ -(10 ^ 60) ≤ i ∧ i ≤ 10 ^ 60) ∨ (w = "text" ∧ ∃ x, d = .str x ∧ SignsOk x) ∨ (w = "truth" ∧ ∃ b, d = .bl b) ∨ (w = "empty" ∧ ∃ k, d = kD k ∧ gk k ∧ dep k ≤ 2) ∨ (w = "name" ∧ ∃ x, d = .str x ∧ NameOk x)
  | .rcd ns, _ => Srt ns ∧ ∀ n ∈ ns, NameOk n
  | .mat ns, _ => ns ≠ [] ∧ Srt (ns.map (·.1)) ∧ ∀ n ∈ ns, NameOk n.1 ∧ NameOk n.2
  | .fld _ x, _ => NameOk x
  | .tag k x, _ => NameOk x ∧ ∃ rs, k = [D.tup (ksD rs)] ∧ gk (.cho rs) ∧ dep (.cho rs) ≤ 2
  | .bnd _ x, _ => NameOk x
  | .pln w, n => n = arity w
def gq : Nat → Q → Prop
  | 0, _ => False
  | n + 1, q => fits q.hd q.kids.length ∧ ghd q.hd q.kids.length ∧ ∀ c ∈ q.kids, gq n c
theorem gq.ok : ∀ {n : Nat} {q : Q}, gq n q → Q.ok n q
  | 0, _, h => h.elim
  | n + 1, q, ⟨f, _, k⟩ => ⟨f, fun c hc => (k c hc).ok⟩
theorem gq.mono : ∀ {m n : Nat} {q : Q}, gq m q → m ≤ n → gq n q
  | 0, _, _, h, _ => h.elim
  | m + 1, 0, _, _, l => absurd l (by omega)
  | m + 1, n + 1, _, ⟨f, h, k⟩, l => ⟨f, h, fun c hc => (k c hc).mono (Nat.le_of_succ_le_succ l)⟩
theorem sz_ok9 {q : Q} (h : Q.ok 9 q) : q.sz ≤ 87381 := sz_most h
end Nv

set_option Elab.async false
set_option maxRecDepth 100000
set_option autoImplicit false
set_option linter.all false
set_option maxHeartbeats 4000000
/-! Vd: values of kinds: their order, dicts keyed by them. -/
namespace Nv
open PySem PySem.Spec PyProof.Rows L2
abbrev rowV (r : D × Int) : D := .tup [r.1, .int r.2]
mutual
/-- a value of a kind -/
def VD : Kd → D → Prop
  | .leaf x, d => (x = "number" ∧ ∃ i, d = .int i) ∨ (x = "text" ∧ ∃ t, d = .str t ∧ PyData.strOk t = true) ∨ (x = "truth" ∧ ∃ b, d = .bl b)
  | .bag k, d => ∃ rs : List (D × Int), d = .tup (rs.map rowV) ∧ ∀ r ∈ rs, VD k r.1
  | .rcd ks, d => ∃ ds, d = .tup ds ∧ VDs ks ds
  | .cho ks, d => ∃ n v, d = .tup [.str n, v] ∧ PyData.strOk n = true ∧ VDc ks n v
def VDs : Ks → List D → Prop
  | .nil, ds => ds = []
  | .cons _ k r, ds => ∃ d ds', ds = d :: ds' ∧ VD k d ∧ VDs r ds'
def VDc : Ks → Str → D → Prop
  | .nil, _, _ => False
  | .cons n k r, m, v => (m = n ∧ VD k v) ∨ (m ≠ n ∧ VDc r m v)
end
abbrev pw0 : D → Option PyData := pyW fun _ => none
abbrev pws0 : List D → Option (List PyData) := pyWs fun _ => none
theorem pws_cons {d : D} {ds : List D} {p : PyData} {ps : List PyData} (h1 : pw0 d = some p) (h2 : pws0 ds = some ps) : pws0 (d :: ds) = some (p :: ps) := by
  show (pw0 d).bind _ = _
  rw [h1]
  show (pws0 ds).map _ = _
  rw [h2]; rfl
theorem pw_tup {ds : List D} {ps : List PyData} (h : pws0 ds = some ps) : pw0 (.tup ds) = some (.tuple ps) := by
  show (pws0 ds).map _ = _
  rw [h]; rfl
theorem pws_nil : pws0 [] = some [] := rfl
/-- it reads as data, n deep -/
def Pd (n : Nat) (d : D) : Prop := ∃ p, pw0 d = some p ∧ pureP p = true ∧ p.depth ≤ n
def Pds (n : Nat) (ds : List D) : Prop := ∃ ps, pws0 ds = some ps ∧ purePs ps = true ∧ PyData.depthAll ps ≤ n ∧ ps.length = ds.length
theorem Pds.nil {n : Nat} : Pds n [] := ⟨[], rfl, rfl, Nat.zero_le _, rfl⟩
theorem Pds.cons {n : Nat} {d : D} {ds : List D} (h1 : Pd n d) (h2 : Pds n ds) : Pds n (d :: ds) := by
  obtain ⟨p, e1, e2, e3⟩ := h1
  obtain ⟨ps, g1, g2, g3, g4⟩ := h2
  refine ⟨p :: ps, pws_cons e1 g1, by simp [purePs, e2, g2], ?_, by simp [g4]⟩
  show max p.depth (PyData.depthAll ps) ≤ n
  omega
theorem Pd.tup {n : Nat} {ds : List D} (h : Pds n ds) : Pd (n + 1) (.tup ds) := by
  obtain ⟨ps, g1, g2, g3, _⟩ := h
  exact ⟨.tuple ps, pw_tup g1, by simpa [pureP] using g2, by show PyData.depthAll ps + 1 ≤ n + 1; omega⟩
theorem Pd.mono {n m : Nat} {d : D} (h : Pd n d) (l : n ≤ m) : Pd m d := by
  obtain ⟨p, e1, e2, e3⟩ := h
  exact ⟨p, e1, e2, by omega⟩
theorem Pd.int {n : Nat} {i : Int} : Pd n (.int i) := ⟨.int i, rfl, rfl, Nat.zero_le _⟩
theorem Pd.bl {n : Nat} {i : Bool} : Pd n (.bl i) := ⟨.bool i, rfl, rfl, Nat.zero_le _⟩
theorem Pd.str {n : Nat} {x : Str} (h : PyData.strOk x = true) : Pd n (.str x) := ⟨.str x, rfl, by simpa [pureP] using h, Nat.zero_le _⟩
theorem Pds.of {n : Nat} : ∀ {ds : List D}, (∀ d ∈ ds, Pd n d) → Pds n ds
  | [], _ => .nil
  | d :: ds, h => .cons (h d (.head _)) (.of fun z hz => h z (.tail _ hz))
theorem Pd.row {n : Nat} {r : D × Int} (h : Pd n r.1) : Pd (n + 1) (rowV r) := .tup (.cons h (.cons .int .nil))
mutual
theorem vd_pd : ∀ (k : Kd) (d : D), VD k d → Pd (2 * dep k) d
  | .leaf x, d, h => by
    unfold VD at h
    rcases h with ⟨_, i, rfl⟩ | ⟨_, t, rfl, ht⟩ | ⟨_, b, rfl⟩
    · exact .int
    · exact .str ht
    · exact .bl
  | .bag k, d, h => by
    unfold VD at h
    obtain ⟨rs, rfl, h⟩ := h
    refine (Pd.tup (n := 2 * dep k + 1) (.of fun d hd => ?_)).mono (by show 2 * dep k + 1 + 1 ≤ 2 * (dep k + 1); omega)
    obtain ⟨r, hr, rfl⟩ := List.mem_map.mp hd
    exact .row (vd_pd k r.1 (h r hr))
  | .rcd ks, d, h => by
    unfold VD at h
    obtain ⟨ds, rfl, h⟩ := h
    exact (Pd.tup (vds_pd ks ds h)).mono (by show 2 * deps ks + 1 ≤ 2 * (deps ks + 1); omega)
  | .cho ks, d, h => by
    unfold VD at h
    obtain ⟨n, v, rfl, hn, h⟩ := h
    exact (Pd.tup (.cons (.str hn) (.cons (vdc_pd ks n v h) .nil))).mono (by show 2 * deps ks + 1 ≤ 2 * (deps ks + 1); omega)
theorem vds_pd : ∀ (ks : Ks) (ds : List D), VDs ks ds → Pds (2 * deps ks) ds
  | .nil, ds, h => by unfold VDs at h; subst h; exact .nil
  | .cons n k r, ds, h => by
    unfold VDs at h
    obtain ⟨d, ds', rfl, h1, h2⟩ := h
    have e : deps (.cons n k r) = max (dep k) (deps r) := rfl
    obtain ⟨ps, g1, g2, g3, g4⟩ := vds_pd r ds' h2
    exact .cons ((vd_pd k d h1).mono (by rw [e]; omega)) ⟨ps, g1, g2, by rw [e]; omega, g4⟩
theorem vdc_pd : ∀ (ks : Ks) (n : Str) (v : D), VDc ks n v → Pd (2 * deps ks) v
  | .nil, n, v, h => by unfold VDc at h; exact h.elim
  | .cons m k r, n, v, h => by
    have e : deps (.cons m k r) = max (dep k) (deps r) := rfl
    unfold VDc at h
    rcases h with ⟨_, h⟩ | ⟨_, h⟩
    · exact (vd_pd k v h).mono (by rw [e]; omega)
    · exact (vdc_pd r n v h).mono (by rw [e]; omega)
end
/-- the two can be told apart by < -/
def Cm (a b : D) : Prop := ∀ p q, pw0 a = some p → pw0 b = some q → cmpb p q = true
theorem cm_int {i j : Int} : Cm (.int i) (.int j) := fun p q h1 h2 => by cases h1; cases h2; simp [cmpb]
theorem cm_bl {i j : Bool} : Cm (.bl i) (.bl j) := fun p q h1 h2 => by cases h1; cases h2; simp [cmpb]
theorem cm_str {i j : Str} : Cm (.str i) (.str j) := fun p q h1 h2 => by cases h1; cases h2; simp [cmpb]
theorem pws_inv {d : D} {ds : List D} {qs : List PyData} (h : pws0 (d :: ds) = some qs) : ∃ p ps, qs = p :: ps ∧ pw0 d = some p ∧ pws0 ds = some ps := by
  have h : (pw0 d).bind (fun p => (pws0 ds).map (p :: ·)) = some qs := h
  obtain ⟨p, e1, e2⟩ := Option.bind_eq_some_iff.mp h
  obtain ⟨ps, e3, e4⟩ := Option.map_eq_some_iff.mp e2
  exact ⟨p, ps, e4.symm, e1, e3⟩
theorem pw_inv {ds : List D} {p : PyData} (h : pw0 (.tup ds) = some p) : ∃ ps, p = .tuple ps ∧ pws0 ds = some ps := by
  have h : (pws0 ds).map PyData.tuple = some p := h
  obtain ⟨ps, e1, e2⟩ := Option.map_eq_some_iff.mp h
  exact ⟨ps, e2.symm, e1⟩
def Cms (as bs : List D) : Prop := ∀ ps qs, pws0 as = some ps → pws0 bs = some qs → cmpbs ps qs = true
theorem Cms.nilL {bs : List D} : Cms [] bs := fun ps qs h1 h2 => by cases h1; simp [cmpbs]
theorem Cms.nilR {as : List D} : Cms as [] := fun ps qs h1 h2 => by cases h2; cases ps <;> simp [cmpbs]
theorem Cms.cons {a b : D} {as bs : List D} (h1 : Cm a b) (h2 : Cms as bs) : Cms (a :: as) (b :: bs) := fun ps qs e1 e2 => by
  obtain ⟨p, ps', rfl, p1, p2⟩ := pws_inv e1
  obtain ⟨q, qs', rfl, q1, q2⟩ := pws_inv e2
  rw [cmpbs, h1 p q p1 q1, h2 ps' qs' p2 q2]
  simp
theorem Cm.tup {as bs : List D} (h : Cms as bs) : Cm (.tup as) (.tup bs) := fun p q e1 e2 => by
  obtain ⟨ps, rfl, h1⟩ := pw_inv e1
  obtain ⟨qs, rfl, h2⟩ := pw_inv e2
  rw [cmpb]
  exact h ps qs h1 h2
theorem cm_rows {rs ts : List (D × Int)} (h : ∀ r ∈ rs, ∀ t ∈ ts, Cm r.1 t.1) : Cms (rs.map rowV) (ts.map rowV) := by
  induction rs generalizing ts with
  | nil => exact .nilL
  | cons r rs ih =>
    cases ts with
    | nil => exact .nilR
    | cons t ts =>
      exact .cons (.tup (.cons (h r (.head _) t (.head _)) (.cons cm_int .nilL))) (ih fun a ha b hb => h a (.tail _ ha) b (.tail _ hb))
mutual
theorem vd_cm : ∀ (k : Kd) (a b : D), VD k a → VD k b → Cm a b
  | .leaf x, a, b, h, g => by
    unfold VD at h g
    rcases h with ⟨e, i, rfl⟩ | ⟨e, t, rfl, ht⟩ | ⟨e, i, rfl⟩
    · rcases g with ⟨e2, j, rfl⟩ | ⟨e2, _⟩ | ⟨e2, _⟩
      · exact cm_int
      · rw [e] at e2; exact absurd e2 (by decide)
      · rw [e] at e2; exact absurd e2 (by decide)
    · rcases g with ⟨e2, _⟩ | ⟨e2, j, rfl, _⟩ | ⟨e2, _⟩
      · rw [e] at e2; exact absurd e2 (by decide)
      · exact cm_str
      · rw [e] at e2; exact absurd e2 (by decide)
    · rcases g with ⟨e2, _⟩ | ⟨e2, _⟩ | ⟨e2, j, rfl⟩
      · rw [e] at e2; exact absurd e2 (by decide)
      · rw [e] at e2; exact absurd e2 (by decide)
      · exact cm_bl
  | .bag k, a, b, h, g => by
    unfold VD at h g
    obtain ⟨rs, rfl, h⟩ := h
    obtain ⟨ts, rfl, g⟩ := g
    exact .tup (cm_rows fun r hr t ht => vd_cm k r.1 t.1 (h r hr) (g t ht))
  | .rcd ks, a, b, h, g => by
    unfold VD at h g
    obtain ⟨ds, rfl, h⟩ := h
    obtain ⟨es, rfl, g⟩ := g
    exact .tup (vds_cm ks ds es h g)
  | .cho ks, a, b, h, g => by
    unfold VD at h g
    obtain ⟨n, v, rfl, hn, h⟩ := h
    obtain ⟨m, w, rfl, hm, g⟩ := g
    refine .tup fun ps qs e1 e2 => ?_
    obtain ⟨p, ps', rfl, p1, p2⟩ := pws_inv e1
    obtain ⟨q, qs', rfl, q1, q2⟩ := pws_inv e2
    cases p1
    cases q1
    by_cases e : n = m
    · subst e
      have c := Cms.cons (vdc_cm ks n v w h g) (Cms.nilL (bs := [])) ps' qs' p2 q2
      rw [cmpbs, c]
      simp [cmpb]
    · rw [cmpbs]
      have : PyData.eqv (.str n) (.str m) = false := by
        have e2 : PyData.eqv (.str n) (.str m) = (n == m) := by simp [PyData.eqv]
        rw [e2]
        exact beq_eq_false_iff_ne.mpr e
      rw [this]
      simp [cmpb]
theorem vds_cm : ∀ (ks : Ks) (as bs : List D), VDs ks as → VDs ks bs → Cms as bs
  | .nil, as, bs, h, g => by unfold VDs at h; subst h; exact .nilL
  | .cons n k r, as, bs, h, g => by
    unfold VDs at h g
    obtain ⟨d, ds, rfl, h1, h2⟩ := h
    obtain ⟨e, es, rfl, g1, g2⟩ := g
    exact .cons (vd_cm k d e h1 g1) (vds_cm r ds es h2 g2)
theorem vdc_cm : ∀ (ks : Ks) (n : Str) (v w : D), VDc ks n v → VDc ks n w → Cm v w
  | .nil, n, v, w, h, _ => by unfold VDc at h; exact h.elim
  | .cons m k r, n, v, w, h, g => by
    unfold VDc at h g
    rcases h with ⟨e, h⟩ | ⟨e, h⟩
    · rcases g with ⟨_, g⟩ | ⟨e2, _⟩
      · exact vd_cm k v w h g
      · exact absurd e e2
    · rcases g with ⟨e2, _⟩ | ⟨_, g⟩
      · exact absurd e2 e
      · exact vdc_cm r n v w h g
end
/-! keys -/
def Ky (n : Nat) (d : D) : Prop := ∃ k, keyOf d = some k ∧ k.depth ≤ n
def Kys (n : Nat) (ds : List D) : Prop := ∃ ks, keysOf ds = some ks ∧ NestedKey.depthAll ks ≤ n
theorem Kys.nil {n : Nat} : Kys n [] := ⟨[], rfl, Nat.zero_le _⟩
theorem keys_cons {d : D} {ds : List D} {k : NestedKey} {ks : List NestedKey} (h1 : keyOf d = some k) (h2 : keysOf ds = some ks) : keysOf (d :: ds) = some (k :: ks) := by
  show (keyOf d).bind _ = _
  rw [h1]
  show (keysOf ds).map _ = _
  rw [h2]; rfl
theorem Kys.cons {n : Nat} {d : D} {ds : List D} (h1 : Ky n d) (h2 : Kys n ds) : Kys n (d :: ds) := by
  obtain ⟨k, e1, e2⟩ := h1
  obtain ⟨ks, g1, g2⟩ := h2
  refine ⟨k :: ks, keys_cons e1 g1, ?_⟩
  show max k.depth (NestedKey.depthAll ks) ≤ n
  omega
theorem Ky.tup {n : Nat} {ds : List D} (h : Kys n ds) : Ky (n + 1) (.tup ds) := by
  obtain ⟨ks, g1, g2⟩ := h
  refine ⟨.tup ks, ?_, by show NestedKey.depthAll ks + 1 ≤ n + 1; omega⟩
  show (keysOf ds).map _ = _
  rw [g1]; rfl
theorem Ky.mono {n m : Nat} {d : D} (h : Ky n d) (l : n ≤ m) : Ky m d := by
  obtain ⟨p, e1, e2⟩ := h
  exact ⟨p, e1, by omega⟩
theorem Ky.int {n : Nat} {i : Int} : Ky n (.int i) := ⟨.num i, rfl, Nat.zero_le _⟩
theorem Kys.of {n : Nat} : ∀ {ds : List D}, (∀ d ∈ ds, Ky n d) → Kys n ds
  | [], _ => .nil
  | d :: ds, h => .cons (h d (.head _)) (.of fun z hz => h z (.tail _ hz))
mutual
theorem vd_ky : ∀ (k : Kd) (d : D), VD k d → Ky (2 * dep k) d
  | .leaf x, d, h => by
    unfold VD at h
    rcases h with ⟨_, i, rfl⟩ | ⟨_, t, rfl, ht⟩ | ⟨_, b, rfl⟩
    · exact .int
    · exact ⟨.text t, rfl, Nat.zero_le _⟩
    · exact ⟨_, rfl, Nat.zero_le _⟩
  | .bag k, d, h => by
    unfold VD at h
    obtain ⟨rs, rfl, h⟩ := h
    refine (Ky.tup (n := 2 * dep k + 1) (.of fun d hd => ?_)).mono (by show 2 * dep k + 1 + 1 ≤ 2 * (dep k + 1); omega)
    obtain ⟨r, hr, rfl⟩ := List.mem_map.mp hd
    exact .tup (.cons (vd_ky k r.1 (h r hr)) (.cons .int .nil))
  | .rcd ks, d, h => by
    unfold VD at h
    obtain ⟨ds, rfl, h⟩ := h
    exact (Ky.tup (vds_ky ks ds h)).mono (by show 2 * deps ks + 1 ≤ 2 * (deps ks + 1); omega)
  | .cho ks, d, h => by
    unfold VD at h
    obtain ⟨n, v, rfl, hn, h⟩ := h
    exact (Ky.tup (.cons ⟨.text n, rfl, Nat.zero_le _⟩ (.cons (vdc_ky ks n v h) .nil))).mono (by show 2 * deps ks + 1 ≤ 2 * (deps ks + 1); omega)
theorem vds_ky : ∀ (ks : Ks) (ds : List D), VDs ks ds → Kys (2 * deps ks) ds
  | .nil, ds, h => by unfold VDs at h; subst h; exact .nil
  | .cons n k r, ds, h => by
    unfold VDs at h
    obtain ⟨d, ds', rfl, h1, h2⟩ := h
    have e : deps (.cons n k r) = max (dep k) (deps r) := rfl
    obtain ⟨ps, g1, g2⟩ := vds_ky r ds' h2
    exact .cons ((vd_ky k d h1).mono (by rw [e]; omega)) ⟨ps, g1, by rw [e]; omega⟩
theorem vdc_ky : ∀ (ks : Ks) (n : Str) (v : D), VDc ks n v → Ky (2 * deps ks) v
  | .nil, n, v, h => by unfold VDc at h; exact h.elim
  | .cons m k r, n, v, h => by
    have e : deps (.cons m k r) = max (dep k) (deps r) := rfl
    unfold VDc at h
    rcases h with ⟨_, h⟩ | ⟨_, h⟩
    · exact (vd_ky k v h).mono (by rw [e]; omega)
    · exact (vdc_ky r n v h).mono (by rw [e]; omega)
end
theorem keys_inv {d : D} {ds : List D} {qs : List NestedKey} (h : keysOf (d :: ds) = some qs) : ∃ p ps, qs = p :: ps ∧ keyOf d = some p ∧ keysOf ds = some ps := by
  have h : (keyOf d).bind (fun p => (keysOf ds).map (p :: ·)) = some qs := h
  obtain ⟨p, e1, e2⟩ := Option.bind_eq_some_iff.mp h
  obtain ⟨ps, e3, e4⟩ := Option.map_eq_some_iff.mp e2
  exact ⟨p, ps, e4.symm, e1, e3⟩
theorem key_inv {ds : List D} {p : NestedKey} (h : keyOf (.tup ds) = some p) : ∃ ps, p = .tup ps ∧ keysOf ds = some ps := by
  have h : (keysOf ds).map NestedKey.tup = some p := h
  obtain ⟨ps, e1, e2⟩ := Option.map_eq_some_iff.mp h
  exact ⟨ps, e2.symm, e1⟩
/-- keys that are the same are of the same value -/
def Kn (a b : D) : Prop := ∀ p, keyOf a = some p → keyOf b = some p → a = b
def Kns (as bs : List D) : Prop := ∀ p, keysOf as = some p → keysOf bs = some p → as = bs
theorem Kns.nn : Kns [] [] := fun _ _ _ => rfl
theorem Kns.nc {b : D} {bs : List D} : Kns [] (b :: bs) := fun p h1 h2 => by cases h1; obtain ⟨_, _, e, _⟩ := keys_inv h2; cases e
theorem Kns.cn {b : D} {bs : List D} : Kns (b :: bs) [] := fun p h1 h2 => by cases h2; obtain ⟨_, _, e, _⟩ := keys_inv h1; cases e
theorem Kns.cc {a b : D} {as bs : List D} (h1 : Kn a b) (h2 : Kns as bs) : Kns (a :: as) (b :: bs) := fun p e1 e2 => by
  obtain ⟨k, ks, rfl, k1, k2⟩ := keys_inv e1
  obtain ⟨l, ls, e, l1, l2⟩ := keys_inv e2
  injection e with e3 e4
  subst e3 e4
  rw [h1 k k1 l1, h2 ks k2 l2]
theorem Kn.tup {as bs : List D} (h : Kns as bs) : Kn (.tup as) (.tup bs) := fun p e1 e2 => by
  obtain ⟨ks, rfl, k1⟩ := key_inv e1
  obtain ⟨ls, e, l1⟩ := key_inv e2
  injection e with e
  subst e
  rw [h ks k1 l1]
theorem kn_int {i j : Int} : Kn (.int i) (.int j) := fun p h1 h2 => by
  have h1 : some (NestedKey.num i) = some p := h1
  have h2 : some (NestedKey.num j) = some p := h2
  rw [← h1] at h2; injection h2 with h2; injection h2 with h2; rw [h2]
theorem kn_str {i j : Str} : Kn (.str i) (.str j) := fun p h1 h2 => by
  have h1 : some (NestedKey.text i) = some p := h1
  have h2 : some (NestedKey.text j) = some p := h2
  rw [← h1] at h2; injection h2 with h2; injection h2 with h2; rw [h2]
theorem kn_bl {i j : Bool} : Kn (.bl i) (.bl j) := fun p h1 h2 => by
  have h1 : some (NestedKey.num (if i = true then 1 else 0)) = some p := h1
  have h2 : some (NestedKey.num (if j = true then 1 else 0)) = some p := h2
  rw [← h1] at h2
  cases i <;> cases j <;> first | rfl | (injection h2 with h2; injection h2 with h2; exact absurd h2 (by decide))
theorem kn_rows {rs ts : List (D × Int)} (h : ∀ r ∈ rs, ∀ t ∈ ts, Kn r.1 t.1) : Kns (rs.map rowV) (ts.map rowV) := by
  induction rs generalizing ts with
  | nil => cases ts with | nil => exact .nn | cons t ts => exact .nc
  | cons r rs ih =>
    cases ts with
    | nil => exact .cn
    | cons t ts => exact .cc (.tup (.cc (h r (.head _) t (.head _)) (.cc kn_int .nn))) (ih fun a ha b hb => h a (.tail _ ha) b (.tail _ hb))
mutual
theorem vd_kn : ∀ (k : Kd) (a b : D), VD k a → VD k b → Kn a b
  | .leaf x, a, b, h, g => by
    unfold VD at h g
    rcases h with ⟨e, i, rfl⟩ | ⟨e, t, rfl, ht⟩ | ⟨e, i, rfl⟩
    · rcases g with ⟨e2, j, rfl⟩ | ⟨e2, _⟩ | ⟨e2, _⟩
      · exact kn_int
      · rw [e] at e2; exact absurd e2 (by decide)
      · rw [e] at e2; exact absurd e2 (by decide)
    · rcases g with ⟨e2, _⟩ | ⟨e2, j, rfl, _⟩ | ⟨e2, _⟩
      · rw [e] at e2; exact absurd e2 (by decide)
      · exact kn_str
      · rw [e] at e2; exact absurd e2 (by decide)
    · rcases g with ⟨e2, _⟩ | ⟨e2, _⟩ | ⟨e2, j, rfl⟩
      · rw [e] at e2; exact absurd e2 (by decide)
      · rw [e] at e2; exact absurd e2 (by decide)
      · exact kn_bl
  | .bag k, a, b, h, g => by
    unfold VD at h g
    obtain ⟨rs, rfl, h⟩ := h
    obtain ⟨ts, rfl, g⟩ := g
    exact .tup (kn_rows fun r hr t ht => vd_kn k r.1 t.1 (h r hr) (g t ht))
  | .rcd ks, a, b, h, g => by
    unfold VD at h g
    obtain ⟨ds, rfl, h⟩ := h
    obtain ⟨es, rfl, g⟩ := g
    exact .tup (vds_kn ks ds es h g)
  | .cho ks, a, b, h, g => by
    unfold VD at h g
    obtain ⟨n, v, rfl, hn, h⟩ := h
    obtain ⟨m, w, rfl, hm, g⟩ := g
    intro p e1 e2
    have e : n = m := by
      obtain ⟨ps, rfl, p1⟩ := key_inv e1
      obtain ⟨qs, eq, q1⟩ := key_inv e2
      injection eq with eq
      subst eq
      obtain ⟨a1, as1, rfl, a2, _⟩ := keys_inv p1
      obtain ⟨b1, bs1, eb, b2, _⟩ := keys_inv q1
      injection eb with eb _
      subst eb
      have := kn_str (i := n) (j := m) a1 a2 b2
      injection this
    subst e
    exact Kn.tup (.cc kn_str (.cc (vdc_kn ks n v w h g) .nn)) p e1 e2
theorem vds_kn : ∀ (ks : Ks) (as bs : List D), VDs ks as → VDs ks bs → Kns as bs
  | .nil, as, bs, h, g => by unfold VDs at h g; subst h g; exact .nn
  | .cons n k r, as, bs, h, g => by
    unfold VDs at h g
    obtain ⟨d, ds, rfl, h1, h2⟩ := h
    obtain ⟨e, es, rfl, g1, g2⟩ := g
    exact .cc (vd_kn k d e h1 g1) (vds_kn r ds es h2 g2)
theorem vdc_kn : ∀ (ks : Ks) (n : Str) (v w : D), VDc ks n v → VDc ks n w → Kn v w
  | .nil, n, v, w, h, _ => by unfold VDc at h; exact h.elim
  | .cons m k r, n, v, w, h, g => by
    unfold VDc at h g
    rcases h with ⟨e, h⟩ | ⟨e, h⟩
    · rcases g with ⟨_, g⟩ | ⟨e2, _⟩
      · exact vd_kn k v w h g
      · exact absurd e e2
    · rcases g with ⟨e2, _⟩ | ⟨_, g⟩
      · exact absurd e2 e
      · exact vdc_kn r n v w h g
end
/-- which sort of thing a kind's values are -/
theorem vd_cls (k : Kd) : (∀ d, VD k d → ∃ i, d = .int i) ∨ (∀ d, VD k d → ∃ t, d = .str t) ∨ (∀ d, VD k d → ∃ b, d = .bl b) ∨ ∀ d, VD k d → ∃ ds, d = .tup ds := by
  cases k with
  | leaf x =>
    by_cases h1 : x = "number"
    · refine .inl fun d h => ?_
      unfold VD at h
      rcases h with ⟨_, h⟩ | ⟨e, _⟩ | ⟨e, _⟩
      · exact h
      · rw [h1] at e; exact absurd e (by decide)
      · rw [h1] at e; exact absurd e (by decide)
    · by_cases h2 : x = "text"
      · refine .inr (.inl fun d h => ?_)
        unfold VD at h
        rcases h with ⟨e, _⟩ | ⟨_, t, h, _⟩ | ⟨e, _⟩
        · exact absurd e h1
        · exact ⟨t, h⟩
        · rw [h2] at e; exact absurd e (by decide)
      · refine .inr (.inr (.inl fun d h => ?_))
        unfold VD at h
        rcases h with ⟨e, _⟩ | ⟨e, _⟩ | ⟨_, h⟩
        · exact absurd e h1
        · exact absurd e h2
        · exact h
  | bag k => exact .inr (.inr (.inr fun d h => by unfold VD at h; obtain ⟨rs, h, _⟩ := h; exact ⟨_, h⟩))
  | rcd ks => exact .inr (.inr (.inr fun d h => by unfold VD at h; obtain ⟨rs, h, _⟩ := h; exact ⟨_, h⟩))
  | cho ks => exact .inr (.inr (.inr fun d h => by unfold VD at h; obtain ⟨n, v, h, _⟩ := h; exact ⟨_, h⟩))
end Nv

set_option Elab.async false
set_option maxRecDepth 100000
set_option autoImplicit false
set_option linter.all false
set_option maxHeartbeats 4000000
/-! Vd2: dicts keyed by values of a kind. -/
namespace Nv
open PySem PySem.Spec PyProof.Rows L2
open Classical in
noncomputable def lkD (kvs : List (D × D)) (d : D) : Option D := (kvs.find? fun e => decide (e.1 = d)).map (·.2)
open Classical in
noncomputable def putD (kvs : List (D × D)) (d v : D) : List (D × D) := if ∃ e ∈ kvs, e.1 = d then kvs.map (fun e => if e.1 = d then (e.1, v) else e) else kvs ++ [(d, v)]
theorem find_same {α : Type} {p q : α → Bool} : ∀ {l : List α}, (∀ x ∈ l, p x = q x) → l.find? p = l.find? q
  | [], _ => rfl
  | x :: l, h => by
    rw [List.find?_cons, List.find?_cons, h x (.head _), find_same fun y hy => h y (.tail _ hy)]
section
variable {kvs : List (D × D)} {d v : D} {t : D → Prop} [DecidablePred t]
theorem lk_gen (h : ∀ e ∈ kvs, t e.1 ↔ e.1 = d) : (kvs.find? fun p => decide (t p.1)).map (·.2) = lkD kvs d := by
  unfold lkD
  rw [find_same fun x hx => ?_]
  exact decide_eq_decide.mpr (h x hx)
theorem any_gen (h : ∀ e ∈ kvs, t e.1 ↔ e.1 = d) : (kvs.any fun p => decide (t p.1)) = true ↔ ∃ e ∈ kvs, e.1 = d := by
  rw [List.any_eq_true]
  exact ⟨fun ⟨e, he, q⟩ => ⟨e, he, (h e he).mp (of_decide_eq_true q)⟩, fun ⟨e, he, q⟩ => ⟨e, he, decide_eq_true ((h e he).mpr q)⟩⟩
open Classical in
theorem map_gen (h : ∀ e ∈ kvs, t e.1 ↔ e.1 = d) : (kvs.map fun p => if t p.1 then (p.1, v) else p) = kvs.map fun e => if e.1 = d then (e.1, v) else e := by
  refine List.map_congr_left fun e he => ?_
  by_cases q : e.1 = d
  · rw [if_pos ((h e he).mpr q), if_pos q]
  · rw [if_neg fun z => q ((h e he).mp z), if_neg q]
theorem put_gen (h : ∀ e ∈ kvs, t e.1 ↔ e.1 = d) : (if (kvs.any fun p => decide (t p.1)) = true then kvs.map fun p => if t p.1 then (p.1, v) else p else kvs ++ [(d, v)]) = putD kvs d v := by
  unfold putD
  by_cases q : ∃ e ∈ kvs, e.1 = d
  · rw [if_pos ((any_gen h).mpr q), if_pos q, map_gen h]
  · rw [if_neg fun z => q ((any_gen h).mp z), if_neg q]
end
open Classical in
theorem lkD_some {kvs : List (D × D)} {d : D} : (lkD kvs d).isSome = true ↔ ∃ e ∈ kvs, e.1 = d := by
  unfold lkD
  rw [Option.isSome_map, List.find?_isSome]
  exact ⟨fun ⟨e, he, q⟩ => ⟨e, he, of_decide_eq_true q⟩, fun ⟨e, he, q⟩ => ⟨e, he, decide_eq_true q⟩⟩
/-- what a dict of the store with such keys answers -/
structure DA (s : Sto) (i : Nat) (kvs : List (D × D)) (d : D) : Prop where
  ok : dgOk s (.d (.obj i)) = true
  get : ∀ z, getR s (.d (.obj i)) (.d d) (.d z) = some (.d ((lkD kvs d).getD z))
  ix : ∀ v, lkD kvs d = some v → ixR s (.d (.obj i)) (.d d) = some (.d v)
  set : ∀ v, kvs.length < sizeLine → setR (.obj i) d v s = .ok () (s.set i (.dct (putD kvs d v)))
section
variable {s : Sto} {i : Nat} {kvs : List (D × D)} {k : Kd} {d : D}
theorem da_k (h : s[i]? = some (.dct kvs)) {kk : Key} (hd : keyK d = some kk) (hkd : keyD kk = d) (hnt : ∀ ds, d ≠ .tup ds) (hnb : ∀ b, d ≠ .bl b) (ha : dK kvs = true) (hq : ∀ e ∈ kvs, keyK e.1 = some kk ↔ e.1 = d) : DA s i kvs d := by
  have e1 : dctAt s (.d (.obj i)) = some kvs := by rw [dct_obj, h]; show (if dK kvs = true then _ else _) = _; rw [if_pos ha]
  have e2 : dlk kvs kk = lkD kvs d := lk_gen (t := fun x => keyK x = some kk) hq
  have e3 : ∀ v, dput kvs kk v = putD kvs d v := fun v => by
    have := put_gen (v := v) (t := fun x => keyK x = some kk) hq
    unfold dput
    rw [hkd]
    exact this
  have ekr : keyR (.d d) = some kk := hd
  refine ⟨by unfold dgOk; rw [e1]; rfl, fun z => ?_, fun v hv => ?_, fun v hl => ?_⟩
  · have : getR s (.d (.obj i)) (.d d) (.d z) = getR0 s (.d (.obj i)) (.d d) (.d z) := by
      cases d with
      | tup ds => exact absurd rfl (hnt ds)
      | bl b => exact absurd rfl (hnb b)
      | _ => rfl
    rw [this]
    unfold getR0
    rw [e1, ekr]
    show some (RD.d ((dlk kvs kk).getD z)) = _
    rw [e2]
  · have : ixR s (.d (.obj i)) (.d d) = ixR1 s (.d (.obj i)) (.d d) := by
      cases d with
      | tup ds => exact absurd rfl (hnt ds)
      | bl b => exact absurd rfl (hnb b)
      | _ => rfl
    rw [this]
    unfold ixR1
    rw [e1, ekr]
    show (dlk kvs kk).map RD.d = _
    rw [e2, hv]; rfl
  · unfold setR
    simp only
    rw [h]
    simp only
    rw [hd]
    simp only
    rw [if_pos ⟨hl, ha⟩, e3]
theorem da_b (h : s[i]? = some (.dct kvs)) {b : Bool} (ha : kvs.isEmpty = true ∨ dB kvs = true) (hq : ∀ e ∈ kvs, keyB e.1 = some b ↔ e.1 = .bl b) : DA s i kvs (.bl b) := by
  have e1 : bAt s (.d (.obj i)) = some kvs := by
    unfold bAt
    simp only
    rw [h]
    simp only
    rw [if_pos ha]
  have e2 : blk kvs b = lkD kvs (.bl b) := lk_gen (t := fun x => keyB x = some b) hq
  have e3 : ∀ v, bput kvs b v = putD kvs (.bl b) v := fun v => put_gen (v := v) (t := fun x => keyB x = some b) hq
  refine ⟨by unfold dgOk; rw [e1]; simp, fun z => ?_, fun v hv => ?_, fun v hl => ?_⟩
  · show (bAt s (.d (.obj i))).map _ = _
    rw [e1, ← e2]; rfl
  · show (bAt s (.d (.obj i))).bind _ = _
    rw [e1]
    show (blk kvs b).map RD.d = _
    rw [e2, hv]; rfl
  · unfold setR
    simp only
    rw [h]
    simp only
    show (if kvs.length < sizeLine ∧ (kvs.isEmpty = true ∨ dB kvs = true) then Res.ok () (s.set i (.dct (bput kvs b v))) else .no) = _
    rw [if_pos ⟨hl, ha⟩, e3]
theorem da_n (h : s[i]? = some (.dct kvs)) {ds : List D} {kn : NestedKey} (hd : keyN (.tup ds) = some kn) (ha : kvs.isEmpty = true ∨ dN kvs = true) (hq : ∀ e ∈ kvs, keyN e.1 = some kn ↔ e.1 = .tup ds) : DA s i kvs (.tup ds) := by
  have e1 : nAt s (.d (.obj i)) = some kvs := by
    unfold nAt
    simp only
    rw [h]
    simp only
    rw [if_pos ha]
  have e2 : nlk kvs kn = lkD kvs (.tup ds) := lk_gen (t := fun x => keyN x = some kn) hq
  have e3 : ∀ v, nput kvs kn (.tup ds) v = putD kvs (.tup ds) v := fun v => by
    unfold nput putD
    rw [e2]
    by_cases q : ∃ e ∈ kvs, e.1 = .tup ds
    · rw [if_pos (lkD_some.mpr q), if_pos q]
      exact map_gen (t := fun x => keyN x = some kn) hq
    · rw [if_neg fun z => q (lkD_some.mp z), if_neg q]
  refine ⟨by unfold dgOk; rw [e1]; simp, fun z => ?_, fun v hv => ?_, fun v hl => ?_⟩
  · show (nAt s (.d (.obj i))).bind _ = _
    rw [e1]
    show (keyN (.tup ds)).map _ = _
    rw [hd]
    show some (RD.d ((nlk kvs kn).getD z)) = _
    rw [e2]
  · show (nAt s (.d (.obj i))).bind _ = _
    rw [e1]
    show (keyN (.tup ds)).bind _ = _
    rw [hd]
    show (nlk kvs kn).map RD.d = _
    rw [e2, hv]; rfl
  · unfold setR
    simp only
    rw [h]
    simp only
    show (match keyN (.tup ds) with | some k => (if kvs.length < sizeLine ∧ (kvs.isEmpty = true ∨ dN kvs = true) then Res.ok () (s.set i (.dct (nput kvs k (.tup ds) v))) else .no) | none => (match keyB (.tup ds) with | some b => (if kvs.length < sizeLine ∧ (kvs.isEmpty = true ∨ dB kvs = true) then Res.ok () (s.set i (.dct (bput kvs b v))) else .no) | none => .no)) = _
    rw [hd]
    show (if kvs.length < sizeLine ∧ (kvs.isEmpty = true ∨ dN kvs = true) then Res.ok () (s.set i (.dct (nput kvs kn (.tup ds) v))) else .no) = _
    rw [if_pos ⟨hl, ha⟩, e3]
theorem key_n {ds : List D} (h : Ky 8 (.tup ds)) : ∃ kn, keyN (.tup ds) = some kn ∧ keyOf (.tup ds) = some kn := by
  obtain ⟨p, e1, e2⟩ := h
  obtain ⟨ps, rfl, _⟩ := key_inv e1
  refine ⟨_, ?_, e1⟩
  unfold keyN
  rw [e1]
  show (if tupK (.tup ps) = true then _ else _) = _
  rw [if_pos (show tupK (.tup ps) = true from decide_eq_true e2)]
/-- dicts keyed by a kind's values -/
theorem da_vd (hk : dep k ≤ 4) (h : s[i]? = some (.dct kvs)) (hv : ∀ e ∈ kvs, VD k e.1) (hd : VD k d) : DA s i kvs d := by
  rcases vd_cls k with c | c | c | c
  · obtain ⟨n, rfl⟩ := c d hd
    refine da_k h (kk := .inl n) rfl rfl (fun _ q => by cases q) (fun _ q => by cases q) ?_ fun e he => ?_
    · unfold dK
      rw [List.all_eq_true]
      intro e he
      obtain ⟨j, q⟩ := c e.1 (hv e he)
      rw [q]; rfl
    · obtain ⟨j, q⟩ := c e.1 (hv e he)
      rw [q]
      exact ⟨fun z => by injection z with z; injection z with z; rw [z], fun z => by injection z with z; rw [z]; rfl⟩
  · obtain ⟨n, rfl⟩ := c d hd
    refine da_k h (kk := .inr n) rfl rfl (fun _ q => by cases q) (fun _ q => by cases q) ?_ fun e he => ?_
    · unfold dK
      rw [List.all_eq_true]
      intro e he
      obtain ⟨j, q⟩ := c e.1 (hv e he)
      rw [q]; rfl
    · obtain ⟨j, q⟩ := c e.1 (hv e he)
      rw [q]
      exact ⟨fun z => by injection z with z; injection z with z; rw [z], fun z => by injection z with z; rw [z]; rfl⟩
  · obtain ⟨n, rfl⟩ := c d hd
    refine da_b h ?_ fun e he => ?_
    · cases kvs with
      | nil => exact .inl rfl
      | cons p r =>
        refine .inr ?_
        unfold dB
        rw [Bool.and_eq_true]
        refine ⟨rfl, List.all_eq_true.mpr fun e he => ?_⟩
        obtain ⟨j, q⟩ := c e.1 (hv e he)
        rw [q]; rfl
    · obtain ⟨j, q⟩ := c e.1 (hv e he)
      rw [q]
      exact ⟨fun z => by injection z with z; rw [z], fun z => by injection z with z; rw [z]; rfl⟩
  · obtain ⟨ds, rfl⟩ := c d hd
    obtain ⟨kn, hn, ho⟩ := key_n ((vd_ky k _ hd).mono (by omega))
    refine da_n h hn ?_ fun e he => ?_
    · cases kvs with
      | nil => exact .inl rfl
      | cons p r =>
        refine .inr ?_
        unfold dN
        rw [Bool.and_eq_true]
        refine ⟨rfl, List.all_eq_true.mpr fun e he => ?_⟩
        obtain ⟨es, q⟩ := c e.1 (hv e he)
        have hy := vd_ky k _ (hv e he)
        rw [q] at hy ⊢
        obtain ⟨k2, h2, _⟩ := key_n (hy.mono (by omega))
        rw [h2]; rfl
    · refine ⟨fun z => vd_kn k _ _ (hv e he) hd kn ?_ ho, fun z => by rw [z]; exact hn⟩
      unfold keyN at z
      obtain ⟨k3, e3, e4⟩ := Option.bind_eq_some_iff.mp z
      split at e4
      · cases e4; exact e3
      · cases e4
end
/-! sorting -/
theorem leD_str (x y : Str) : leS x y = leD (.str x) (.str y) := by
  show decide (x.cps.toList ≤ y.cps.toList) = !(PySem.W.dataLt (.str y) (.str x))
  rw [PySem.W.dataLt_str, PySem.W.not_lt_str]
theorem sort_strD (ss : List Str) : (ss.mergeSort leS).map D.str = (ss.map D.str).mergeSort leD := sorted_map (fun a b => leD_str a b) ss
theorem pds_get {n : Nat} : ∀ {ds : List D} {ps : List PyData}, pws0 ds = some ps → (∀ d ∈ ds, Pd n d) → (∀ p ∈ ps, ∃ d ∈ ds, pw0 d = some p ∧ pureP p = true ∧ p.depth ≤ n)
  | [], ps, h, _, p, hp => by cases h; cases hp
  | d :: ds, ps, h, hd, p, hp => by
    obtain ⟨q, qs, rfl, h1, h2⟩ := pws_inv h
    rcases List.mem_cons.mp hp with e | hp
    · obtain ⟨p', e1, e2, e3⟩ := hd d (.head _)
      rw [h1] at e1
      cases e1
      subst e
      exact ⟨d, .head _, h1, e2, e3⟩
    · obtain ⟨z, z1, z2⟩ := pds_get h2 (fun x hx => hd x (.tail _ hx)) p hp
      exact ⟨z, .tail _ z1, z2⟩
theorem srtD_of {ds : List D} (h1 : ∀ d ∈ ds, Pd 60 d) (h2 : ∀ a ∈ ds, ∀ b ∈ ds, Cm a b) (hl : ds.length ≤ 1000000) : srtD ds = some (ds.mergeSort leD) := by
  obtain ⟨ps, e1, _, _, e4⟩ := Pds.of h1
  have g := pds_get e1 h1
  unfold srtD
  show (pws0 ds).bind _ = _
  rw [e1]
  show (if srtOk ps = true then _ else _) = _
  rw [if_pos]
  unfold srtOk
  rw [Bool.and_eq_true, Bool.and_eq_true, Bool.and_eq_true]
  refine ⟨⟨⟨List.all_eq_true.mpr fun p hp => ?_, List.all_eq_true.mpr fun p hp => List.all_eq_true.mpr fun q hq => ?_⟩, List.all_eq_true.mpr fun p hp => ?_⟩, decide_eq_true (by rw [e4]; exact hl)⟩
  · obtain ⟨d, _, _, h, _⟩ := g p hp; exact h
  · obtain ⟨d, hd, e, _⟩ := g p hp
    obtain ⟨d', hd', e', _⟩ := g q hq
    exact h2 d hd d' hd' p q e e'
  · obtain ⟨d, _, _, _, h⟩ := g p hp; exact decide_eq_true h
theorem strs_none {d : D} {ds : List D} (h : ∀ t, d ≠ .str t) : strsOf (d :: ds) = none := by
  cases d with
  | str t => exact absurd rfl (h t)
  | _ => rfl
section
variable {k : Kd} {ds : List D}
theorem strsD_map : ∀ ss : List Str, strsOf (ss.map D.str) = some ss
  | [] => rfl
  | x :: r => by
    show (strsOf (r.map D.str)).map (x :: ·) = _
    rw [strsD_map r]; rfl
theorem all_strs : ∀ {ds : List D}, (∀ d ∈ ds, ∃ t, d = D.str t) → ∃ ss : List Str, ds = ss.map D.str
  | [], _ => ⟨[], rfl⟩
  | d :: ds, h => by
    obtain ⟨t, rfl⟩ := h d (.head _)
    obtain ⟨ss, rfl⟩ := all_strs fun z hz => h z (.tail _ hz)
    exact ⟨t :: ss, rfl⟩
theorem srt_vd (hk : dep k ≤ 4) (h : ∀ d ∈ ds, VD k d) (hl : ds.length ≤ 1000000) : srtD ds = some (ds.mergeSort leD) :=
  srtD_of (fun d hd => (vd_pd k d (h d hd)).mono (by omega)) (fun a ha b hb => vd_cm k a b (h a ha) (h b hb)) hl
theorem strs_or (h : ∀ d ∈ ds, VD k d) : (∃ ss : List Str, ds = ss.map D.str) ∨ strsOf ds = none := by
  cases ds with
  | nil => exact .inl ⟨[], rfl⟩
  | cons d r =>
    rcases vd_cls k with c | c | c | c
    · obtain ⟨n, rfl⟩ := c d (h _ (.head _)); exact .inr (strs_none fun t q => by cases q)
    · exact .inl (all_strs fun z hz => c z (h z hz))
    · obtain ⟨n, rfl⟩ := c d (h _ (.head _)); exact .inr (strs_none fun t q => by cases q)
    · obtain ⟨n, rfl⟩ := c d (h _ (.head _)); exact .inr (strs_none fun t q => by cases q)
/-- sorted(xs) of a fresh list -/
theorem sorted_l {s : Sto} (hk : dep k ≤ 4) (h : ∀ d ∈ ds, VD k d) (hl : ds.length < 64) : b1R .sorted s (.l ds) = some (.l (ds.mergeSort leD)) := by
  show (match strsOf ds with | some ss => if ss.length < 64 then some (RD.l (List.map D.str (List.mergeSort ss leS))) else none | none => (srtD ds).map .l) = _
  rcases strs_or h with ⟨ss, rfl⟩ | e
  · rw [strsD_map]
    simp only
    rw [if_pos (by rw [List.length_map] at hl; exact hl), sort_strD]
  · rw [e]
    simp only
    rw [srt_vd hk h (by omega)]
    rfl
/-- sorted(d) -/
theorem sorted_d {s : Sto} {i : Nat} {kvs : List (D × D)} (hk : dep k ≤ 4) (hs : s[i]? = some (.dct kvs)) (h : ∀ e ∈ kvs, VD k e.1) (hl : kvs.length ≤ 1000) : b1R .sorted s (.d (.obj i)) = some (.l ((kvs.map (·.1)).mergeSort leD)) := by
  have ha : anyD s (.d (.obj i)) = some kvs := by
    show (match s[i]? with | some (.dct kvs) => some kvs | _ => none) = _
    rw [hs]
  have h' : ∀ d ∈ kvs.map (·.1), VD k d := fun d hd => by
    obtain ⟨e, he, rfl⟩ := List.mem_map.mp hd
    exact h e he
  show (match anyD s (.d (.obj i)) with
    | some kvs => match strsOf (List.map Prod.fst (kvs : List (D × D))) with
      | some ss => if ss.length ≤ 1000 then some (RD.l (List.map D.str (List.mergeSort ss leS))) else none
      | none => (srtD (List.map Prod.fst (kvs : List (D × D)))).map RD.l
    | none => _) = _
  rw [ha]
  simp only
  rcases strs_or h' with ⟨ss, e⟩ | e
  · rw [e, strsD_map]
    simp only
    have : ss.length = kvs.length := by rw [← List.length_map (f := D.str), ← e, List.length_map]
    rw [if_pos (by omega), sort_strD]
  · rw [e]
    simp only
    rw [srt_vd hk h' (by rw [List.length_map]; omega)]
    rfl
/-- sorted(d.items()), counts for values -/
theorem sorted_i {s : Sto} {i : Nat} {rs : List (D × Int)} (hk : dep k ≤ 4) (hs : s[i]? = some (.dct (rs.map fun r => (r.1, D.int r.2)))) (h : ∀ r ∈ rs, VD k r.1) (hl : rs.length ≤ 1000) : ∃ rs' : List (D × Int), rs'.Perm rs ∧ siR s (.obj i) = some (.l (rs'.map rowV)) := by
  have ha : anyD s (.d (.obj i)) = some (rs.map fun r => (r.1, D.int r.2)) := by
    show (match s[i]? with | some (.dct kvs) => some kvs | _ => none) = _
    rw [hs]
  have back : ∀ {l : List D}, l.Perm (rs.map rowV) → ∃ rs' : List (D × Int), rs'.Perm rs ∧ l = rs'.map rowV := by
    intro l p
    have : ∀ {l m : List D}, l.Perm m → ∀ {rs : List (D × Int)}, m = rs.map rowV → ∃ rs' : List (D × Int), rs'.Perm rs ∧ l = rs'.map rowV := by
      intro l m p
      induction p with
      | nil => intro rs e; cases rs with | nil => exact ⟨[], .nil, rfl⟩ | cons _ _ => cases e
      | cons x _ ih =>
        intro rs e
        cases rs with
        | nil => cases e
        | cons r rs =>
          rw [List.map_cons] at e
          injection e with e1 e2
          obtain ⟨rs', p', e'⟩ := ih e2
          exact ⟨r :: rs', p'.cons _, by rw [List.map_cons, e1, e']⟩
      | swap x y l =>
        intro rs e
        match rs, e with
        | r1 :: r2 :: rs, e =>
          rw [List.map_cons, List.map_cons] at e
          injection e with e1 e2
          injection e2 with e2 e3
          exact ⟨r2 :: r1 :: rs, .swap _ _ _, by rw [List.map_cons, List.map_cons, e1, e2, e3]⟩
        | [], e => cases e
        | [_], e => cases e
      | trans _ _ ih1 ih2 =>
        intro rs e
        obtain ⟨r2, p2, e2⟩ := ih2 e
        obtain ⟨r1, p1, e1⟩ := ih1 e2
        exact ⟨r1, p1.trans p2, e1⟩
    exact this p rfl
  have hmap : ((rs.map fun r => (r.1, D.int r.2)).map fun e : D × D => D.tup [e.1, e.2]) = rs.map rowV := by rw [List.map_map]; rfl
  unfold siR
  cases e0 : siR0 s (.obj i) with
  | some r =>
    simp only
    unfold siR0 at e0
    obtain ⟨kvs, e1, e2⟩ := Option.bind_eq_some_iff.mp e0
    obtain ⟨ks, e3, rfl⟩ := Option.map_eq_some_iff.mp e2
    have ek : kvs = rs.map fun r => (r.1, D.int r.2) := by
      unfold dctAt at e1
      rw [ha] at e1
      have e1 : (if dK (rs.map fun r => (r.1, D.int r.2)) = true then some (rs.map fun r => (r.1, D.int r.2)) else none) = some kvs := e1
      split at e1
      · cases e1; rfl
      · cases e1
    subst ek
    have hks : rs.map (·.1) = ks.map D.str := by
      have : ∀ {ds : List D} {ks : List Str}, strsOf ds = some ks → ds = ks.map D.str := by
        intro ds
        induction ds with
        | nil => intro ks h; unfold strsOf at h; cases h; rfl
        | cons d ds ih =>
          intro ks h
          cases d with
          | str b =>
            unfold strsOf at h
            obtain ⟨cs, q, rfl⟩ := Option.map_eq_some_iff.mp h
            rw [ih q]; rfl
          | _ => unfold strsOf at h; cases h
      have := this e3
      rw [List.map_map] at this
      exact this
    have hz : (ks.zip ((rs.map fun r => (r.1, D.int r.2)).map (·.2))).map (fun e => D.tup [.str e.1, e.2]) = rs.map rowV := by
      rw [List.map_map]
      have : ∀ {rs : List (D × Int)} {ks : List Str}, rs.map (·.1) = ks.map D.str → (ks.zip (rs.map ((·.2) ∘ fun r : D × Int => (r.1, D.int r.2)))).map (fun e => D.tup [.str e.1, e.2]) = rs.map rowV := by
        intro rs
        induction rs with
        | nil => intro ks e; cases ks with | nil => rfl | cons _ _ => cases e
        | cons r rs ih =>
          intro ks e
          cases ks with
          | nil => cases e
          | cons x ks =>
            rw [List.map_cons, List.map_cons] at e
            injection e with e1 e2
            rw [List.map_cons, List.zip_cons_cons, List.map_cons, ih e2, List.map_cons]
            show D.tup [.str x, .int r.2] :: _ = D.tup [r.1, .int r.2] :: _
            rw [e1]
      exact this hks
    obtain ⟨rs', p, e⟩ := back (l := (((ks.zip ((rs.map fun r => (r.1, D.int r.2)).map (·.2))).mergeSort fun a b => leS a.1 b.1).map fun e => D.tup [.str e.1, e.2])) (by
      rw [← hz]
      exact (List.mergeSort_perm _ _).map _)
    exact ⟨rs', p, by rw [e]⟩
  | none =>
    simp only
    rw [ha]
    show ∃ rs', _ ∧ (srtD ((rs.map fun r => (r.1, D.int r.2)).map fun e : D × D => D.tup [e.1, e.2])).map RD.l = _
    rw [hmap]
    have hb : VD (.bag k) (.tup (rs.map rowV)) := by unfold VD; exact ⟨rs, rfl, h⟩
    rw [srtD_of (ds := rs.map rowV) (fun d hd => ?_) (fun a ha' b hb' => ?_) (by rw [List.length_map]; omega)]
    · obtain ⟨rs', p, e⟩ := back (List.mergeSort_perm (rs.map rowV) leD)
      exact ⟨rs', p, by rw [← e]; rfl⟩
    · obtain ⟨r, hr, rfl⟩ := List.mem_map.mp hd
      exact (Pd.row (vd_pd k r.1 (h r hr))).mono (by omega)
    · obtain ⟨r, hr, rfl⟩ := List.mem_map.mp ha'
      obtain ⟨r', hr', rfl⟩ := List.mem_map.mp hb'
      exact .tup (.cons (vd_cm k r.1 r'.1 (h r hr) (h r' hr')) (.cons cm_int .nilL))
end
end Nv

set_option Elab.async false
set_option maxRecDepth 100000
set_option autoImplicit false
set_option linter.all false
set_option maxHeartbeats 4000000
/-! Pap: papers, in plain Lean. -/
namespace Nv
open PySem PySem.Spec PyProof.Rows L2 Classical
abbrev Rw := List (D × Int)
noncomputable def cnt (rs : Rw) (v : D) : Int := ((rs.filter fun r => decide (r.1 = v)).map (·.2)).sum
theorem cnt_nil {v : D} : cnt [] v = 0 := rfl
theorem cnt_cons {r : D × Int} {rs : Rw} {v : D} : cnt (r :: rs) v = (if r.1 = v then r.2 else 0) + cnt rs v := by
  unfold cnt
  by_cases h : r.1 = v
  · rw [List.filter_cons_of_pos (by simp [h]), if_pos h]; rfl
  · rw [List.filter_cons_of_neg (by simp [h]), if_neg h, Int.zero_add]
theorem cnt_app {a b : Rw} {v : D} : cnt (a ++ b) v = cnt a v + cnt b v := by
  induction a with
  | nil => rw [List.nil_append, cnt_nil, Int.zero_add]
  | cons r a ih => rw [List.cons_append, cnt_cons, cnt_cons, ih, Int.add_assoc]
theorem cnt_perm {a b : Rw} (h : a.Perm b) {v : D} : cnt a v = cnt b v := by
  induction h with
  | nil => rfl
  | cons x _ ih => rw [cnt_cons, cnt_cons, ih]
  | swap x y l => rw [cnt_cons, cnt_cons, cnt_cons, cnt_cons]; omega
  | trans _ _ h1 h2 => rw [h1, h2]
theorem cnt_mul {rs : Rw} {m : Int} {v : D} : cnt (rs.map fun r => (r.1, r.2 * m)) v = cnt rs v * m := by
  induction rs with
  | nil => simp [cnt_nil]
  | cons r rs ih =>
    rw [List.map_cons, cnt_cons, cnt_cons, ih, Int.add_mul]
    by_cases h : r.1 = v
    · rw [if_pos h, if_pos h]
    · rw [if_neg h, if_neg h, Int.zero_mul]
theorem cnt_none {rs : Rw} {v : D} (h : ∀ r ∈ rs, r.1 ≠ v) : cnt rs v = 0 := by
  induction rs with
  | nil => rfl
  | cons r rs ih => rw [cnt_cons, if_neg (h r (.head _)), ih fun z hz => h z (.tail _ hz), Int.zero_add]
theorem mem_of_cnt {rs : Rw} {v : D} (h : cnt rs v ≠ 0) : ∃ r ∈ rs, r.1 = v := Classical.byContradiction fun q => h (cnt_none fun r hr e => q ⟨r, hr, e⟩)
theorem cnt_uni {L : Rw} (nd : (L.map (·.1)).Nodup) {e : D × Int} (he : e ∈ L) : cnt L e.1 = e.2 := by
  induction L with
  | nil => cases he
  | cons r L ih =>
    rw [List.map_cons, List.nodup_cons] at nd
    rw [cnt_cons]
    rcases List.mem_cons.mp he with q | he
    · rw [q, if_pos rfl, cnt_none fun z hz e => nd.1 (by rw [← e]; exact List.mem_map.mpr ⟨z, hz, rfl⟩), Int.add_zero]
    · rw [if_neg fun q => nd.1 (by rw [q]; exact List.mem_map.mpr ⟨e, he, rfl⟩), ih nd.2 he, Int.zero_add]
/-- L is the paper of the rows rs -/
structure IsG (rs L : Rw) : Prop where
  pw : (L.map (·.1)).Pairwise fun a b => leD a b = true
  nd : (L.map (·.1)).Nodup
  mem : ∀ e, e ∈ L ↔ e.2 = cnt rs e.1 ∧ e.2 ≠ 0
theorem IsG.cnt {rs L : Rw} (h : IsG rs L) (v : D) : Nv.cnt L v = Nv.cnt rs v := by
  by_cases q : Nv.cnt rs v = 0
  · rw [q]
    refine cnt_none fun r hr e => ?_
    obtain ⟨h1, h2⟩ := (h.mem r).mp hr
    rw [e] at h1
    exact h2 (h1.trans q)
  · exact cnt_uni h.nd ((h.mem (v, Nv.cnt rs v)).mpr ⟨rfl, q⟩)
theorem leD_anti {k : Kd} {a b : D} (ha : VD k a) (hb : VD k b) (p1 : leD a b = true) (p2 : leD b a = true) : a = b := by
  obtain ⟨pa, ea, ua, _⟩ := vd_pd k a ha
  obtain ⟨pb, eb, ub, _⟩ := vd_pd k b hb
  unfold leD at p1 p2
  rw [pyD_of ea, pyD_of eb] at p1 p2
  have z1 : PySem.W.dataLt pb pa = false := by cases z : PySem.W.dataLt pb pa with | false => rfl | true => rw [z] at p1; cases p1
  have z2 : PySem.W.dataLt pa pb = false := by cases z : PySem.W.dataLt pa pb with | false => rfl | true => rw [z] at p2; cases p2
  have z3 := lt_anti (vd_cm k a b ha hb pa pb ea eb) z2 z1
  subst z3
  exact pure_inj a b pa ea eb ua
theorem sorted_ext {k : Kd} {l m : List D} (hl : ∀ d ∈ l, VD k d) (p1 : l.Pairwise fun a b => leD a b = true) (p2 : m.Pairwise fun a b => leD a b = true) (n1 : l.Nodup) (n2 : m.Nodup) (h : ∀ d, d ∈ l ↔ d ∈ m) : l = m := by
  have pm : l.Perm m := (List.perm_ext_iff_of_nodup n1 n2).mpr h
  exact List.Perm.eq_of_pairwise (le := fun a b => leD a b = true) (fun a b ha hb q1 q2 => leD_anti (hl a ha) (hl b ((h b).mpr hb)) q1 q2) p1 p2 pm
theorem IsG.uni {k : Kd} {rs ts A B : Rw} (va : ∀ e ∈ A, VD k e.1) (h : IsG rs A) (g : IsG ts B) (hc : ∀ v, Nv.cnt rs v = Nv.cnt ts v) : A = B := by
  have hm : ∀ e, e ∈ A ↔ e ∈ B := fun e => by rw [h.mem, g.mem, hc]
  have hk : A.map (·.1) = B.map (·.1) := by
    refine sorted_ext (k := k) (fun d hd => ?_) h.pw g.pw h.nd g.nd fun d => ?_
    · obtain ⟨e, he, rfl⟩ := List.mem_map.mp hd; exact va e he
    · rw [List.mem_map, List.mem_map]
      exact ⟨fun ⟨e, he, q⟩ => ⟨e, (hm e).mp he, q⟩, fun ⟨e, he, q⟩ => ⟨e, (hm e).mpr he, q⟩⟩
  have ea : A = (A.map (·.1)).map fun v => (v, Nv.cnt rs v) := by
    rw [List.map_map]
    conv => lhs; rw [← List.map_id A]
    refine List.map_congr_left fun e he => ?_
    show e = (e.1, Nv.cnt rs e.1)
    rw [← ((h.mem e).mp he).1]
  have eb : B = (B.map (·.1)).map fun v => (v, Nv.cnt rs v) := by
    rw [List.map_map]
    conv => lhs; rw [← List.map_id B]
    refine List.map_congr_left fun e he => ?_
    show e = (e.1, Nv.cnt rs e.1)
    rw [hc, ← ((g.mem e).mp he).1]
  rw [ea, eb, hk]
theorem IsG.vd {k : Kd} {rs L : Rw} (h : IsG rs L) (hv : ∀ r ∈ rs, VD k r.1) : ∀ e ∈ L, VD k e.1 := fun e he => by
  obtain ⟨h1, h2⟩ := (h.mem e).mp he
  obtain ⟨r, hr, q⟩ := mem_of_cnt (h1 ▸ h2)
  rw [← q]; exact hv r hr
theorem nd_le {α : Type} : ∀ {l m : List α}, l.Nodup → (∀ x ∈ l, x ∈ m) → l.length ≤ m.length
  | [], _, _, _ => Nat.zero_le _
  | a :: l, m, nd, hs => by
    obtain ⟨n1, n2⟩ := List.nodup_cons.mp nd
    obtain ⟨m1, m2, rfl⟩ := List.append_of_mem (hs a (.head _))
    have := nd_le (m := m1 ++ m2) n2 fun x hx => by
      rcases List.mem_append.mp (hs x (.tail _ hx)) with q | q
      · exact List.mem_append_left _ q
      · rcases List.mem_cons.mp q with q | q
        · exact absurd (q ▸ hx) n1
        · exact List.mem_append_right _ q
    rw [List.length_append] at this
    rw [List.length_append, List.length_cons, List.length_cons]
    omega
theorem IsG.le {rs L : Rw} (h : IsG rs L) : L.length ≤ rs.length := by
  have := nd_le (m := rs.map (·.1)) h.nd fun v hv => by
    obtain ⟨e, he, rfl⟩ := List.mem_map.mp hv
    obtain ⟨h1, h2⟩ := (h.mem e).mp he
    obtain ⟨r, hr, q⟩ := mem_of_cnt (h1 ▸ h2)
    exact List.mem_map.mpr ⟨r, hr, q⟩
  rwa [List.length_map, List.length_map] at this
/-! the dict of counts -/
noncomputable def getI (acc : Rw) (v : D) : Int := ((acc.find? fun e => decide (e.1 = v)).map (·.2)).getD 0
noncomputable def putI (acc : Rw) (v : D) (n : Int) : Rw := if ∃ e ∈ acc, e.1 = v then acc.map (fun e => if e.1 = v then (e.1, n) else e) else acc ++ [(v, n)]
abbrev dI (acc : Rw) : List (D × D) := acc.map fun e => (e.1, D.int e.2)
theorem lk_dI (acc : Rw) (v : D) : (lkD (dI acc) v).getD (.int 0) = .int (getI acc v) := by
  unfold lkD getI dI
  rw [List.find?_map]
  show ((((acc.find? _).map _).map _).getD _ : D) = _
  have : ((fun e : D × D => decide (e.1 = v)) ∘ fun e : D × Int => (e.1, D.int e.2)) = fun e : D × Int => decide (e.1 = v) := rfl
  rw [this]
  cases acc.find? fun e => decide (e.1 = v) with
  | none => rfl
  | some e => rfl
theorem lk_dI' {acc : Rw} {e : D × Int} (nd : (acc.map (·.1)).Nodup) (h : e ∈ acc) : lkD (dI acc) e.1 = some (.int e.2) := by
  unfold lkD dI
  induction acc with
  | nil => cases h
  | cons a acc ih =>
    rw [List.map_cons, List.nodup_cons] at nd
    rw [List.map_cons, List.find?_cons]
    rcases List.mem_cons.mp h with q | h
    · rw [q]; simp
    · have hne : ¬ a.1 = e.1 := fun q => nd.1 (by rw [q]; exact List.mem_map.mpr ⟨e, h, rfl⟩)
      simp only [decide_eq_false hne]
      exact ih nd.2 h
theorem put_dI (acc : Rw) (v : D) (n : Int) : putD (dI acc) v (.int n) = dI (putI acc v n) := by
  unfold putD putI dI
  have hq : (∃ e ∈ acc.map (fun e => (e.1, D.int e.2)), e.1 = v) ↔ ∃ e ∈ acc, e.1 = v := by
    constructor
    · rintro ⟨e, he, q⟩
      obtain ⟨a, ha, rfl⟩ := List.mem_map.mp he
      exact ⟨a, ha, q⟩
    · rintro ⟨a, ha, q⟩
      exact ⟨_, List.mem_map.mpr ⟨a, ha, rfl⟩, q⟩
  by_cases h : ∃ e ∈ acc, e.1 = v
  · rw [if_pos (hq.mpr h), if_pos h, List.map_map, List.map_map]
    refine List.map_congr_left fun e _ => ?_
    show (if e.1 = v then (e.1, D.int n) else (e.1, D.int e.2)) = _
    by_cases h2 : e.1 = v
    · rw [if_pos h2]; simp [h2]
    · rw [if_neg h2]; simp [h2]
  · rw [if_neg fun z => h (hq.mp z), if_neg h, List.map_append]; rfl
/-- the counts of what is done -/
structure Js (done acc : Rw) : Prop where
  nd : (acc.map (·.1)).Nodup
  mem : ∀ v, (∃ e ∈ acc, e.1 = v) ↔ ∃ r ∈ done, r.1 = v
  eq : ∀ e ∈ acc, e.2 = cnt done e.1
  le : acc.length ≤ done.length
theorem Js.nil : Js [] [] := ⟨List.nodup_nil, fun v => ⟨fun ⟨e, he, _⟩ => (by cases he), fun ⟨e, he, _⟩ => (by cases he)⟩, fun e he => (by cases he), Nat.le_refl _⟩
theorem Js.get {done acc : Rw} (h : Js done acc) (v : D) : getI acc v = cnt done v := by
  unfold getI
  cases q : acc.find? fun e => decide (e.1 = v) with
  | none =>
    show (0 : Int) = _
    rw [cnt_none fun r hr e => ?_]
    obtain ⟨a, ha, e2⟩ := (h.mem v).mpr ⟨r, hr, e⟩
    have := List.find?_eq_none.mp q a ha
    simp [e2] at this
  | some e =>
    have h1 := List.find?_some q
    have h2 := List.mem_of_find?_eq_some q
    have h3 : e.1 = v := of_decide_eq_true h1
    show e.2 = _
    rw [h.eq e h2, h3]
theorem Js.step {done acc : Rw} (h : Js done acc) (r : D × Int) : Js (done ++ [r]) (putI acc r.1 (getI acc r.1 + r.2)) := by
  have hg : getI acc r.1 + r.2 = cnt (done ++ [r]) r.1 := by rw [h.get, cnt_app, cnt_cons, if_pos rfl, cnt_nil, Int.add_zero]
  have hc : ∀ v, v ≠ r.1 → cnt (done ++ [r]) v = cnt done v := fun v hv => by rw [cnt_app, cnt_cons, if_neg (fun q => hv q.symm), cnt_nil]; omega
  have hd : ∀ v, (∃ z ∈ done ++ [r], z.1 = v) ↔ (∃ z ∈ done, z.1 = v) ∨ r.1 = v := fun v => by
    constructor
    · rintro ⟨z, hz, q⟩
      rcases List.mem_append.mp hz with hz | hz
      · exact .inl ⟨z, hz, q⟩
      · rw [List.mem_singleton.mp hz] at q; exact .inr q
    · rintro (⟨z, hz, q⟩ | q)
      · exact ⟨z, List.mem_append_left _ hz, q⟩
      · exact ⟨r, by simp, q⟩
  unfold putI
  by_cases hx : ∃ e ∈ acc, e.1 = r.1
  · rw [if_pos hx]
    have hk : (acc.map fun e => if e.1 = r.1 then (e.1, getI acc r.1 + r.2) else e).map (·.1) = acc.map (·.1) := by
      rw [List.map_map]
      refine List.map_congr_left fun e _ => ?_
      show (if e.1 = r.1 then (e.1, getI acc r.1 + r.2) else e).1 = e.1
      split <;> rfl
    refine ⟨by rw [hk]; exact h.nd, fun v => ?_, fun e he => ?_, by rw [List.length_map, List.length_append]; have := h.le; simp; omega⟩
    · rw [hd, ← h.mem]
      constructor
      · rintro ⟨e, he, q⟩
        have : v ∈ acc.map (·.1) := by rw [← hk]; exact List.mem_map.mpr ⟨e, he, q⟩
        obtain ⟨a, ha, q2⟩ := List.mem_map.mp this
        exact .inl ⟨a, ha, q2⟩
      · intro z
        have : v ∈ acc.map (·.1) := by
          rcases z with ⟨a, ha, q⟩ | q
          · exact List.mem_map.mpr ⟨a, ha, q⟩
          · obtain ⟨a, ha, q2⟩ := hx
            exact List.mem_map.mpr ⟨a, ha, q2.trans q⟩
        rw [← hk] at this
        obtain ⟨e, he, q⟩ := List.mem_map.mp this
        exact ⟨e, he, q⟩
    · obtain ⟨a, ha, rfl⟩ := List.mem_map.mp he
      by_cases q : a.1 = r.1
      · rw [if_pos q]
        show getI acc r.1 + r.2 = _
        rw [hg, q]
      · rw [if_neg q, hc a.1 q, h.eq a ha]
  · rw [if_neg hx]
    refine ⟨?_, fun v => ?_, fun e he => ?_, by rw [List.length_append, List.length_append]; have := h.le; simp; omega⟩
    · rw [List.map_append, List.map_cons, List.map_nil, List.nodup_append]
      refine ⟨h.nd, by simp, fun a ha b hb => ?_⟩
      rw [List.mem_singleton.mp hb]
      rintro rfl
      obtain ⟨e, he, q⟩ := List.mem_map.mp ha
      exact hx ⟨e, he, q⟩
    · rw [hd, ← h.mem]
      constructor
      · rintro ⟨e, he, q⟩
        rcases List.mem_append.mp he with he | he
        · exact .inl ⟨e, he, q⟩
        · rw [List.mem_singleton.mp he] at q; exact .inr q
      · rintro (⟨e, he, q⟩ | q)
        · exact ⟨e, List.mem_append_left _ he, q⟩
        · exact ⟨(r.1, getI acc r.1 + r.2), by simp, q⟩
    · rcases List.mem_append.mp he with he | he
      · rw [hc e.1 fun q => hx ⟨e, he, q⟩, h.eq e he]
      · rw [List.mem_singleton.mp he]; exact hg
theorem Js.vd {k : Kd} {done acc : Rw} (h : Js done acc) (hv : ∀ r ∈ done, VD k r.1) : ∀ e ∈ acc, VD k e.1 := fun e he => by
  obtain ⟨r, hr, q⟩ := (h.mem e.1).mp ⟨e, he, rfl⟩
  rw [← q]; exact hv r hr
/-- sorted, those that count -/
noncomputable def outG (rs acc : Rw) : Rw := (((acc.map (·.1)).mergeSort leD).filter fun v => decide (cnt rs v ≠ 0)).map fun v => (v, cnt rs v)
theorem Js.out {rs acc : Rw} (h : Js rs acc) : IsG rs (outG rs acc) := by
  have hk : (outG rs acc).map (·.1) = ((acc.map (·.1)).mergeSort leD).filter fun v => decide (cnt rs v ≠ 0) := by
    unfold outG
    rw [List.map_map]
    exact List.map_id _
  refine ⟨?_, ?_, fun e => ?_⟩
  · rw [hk]
    exact (List.pairwise_mergeSort (fun a b c => leD_tr a b c) (fun a b => leD_tot a b) (acc.map (·.1))).sublist List.filter_sublist
  · rw [hk]
    exact ((List.mergeSort_perm _ _).nodup_iff.mpr h.nd).sublist List.filter_sublist
  · unfold outG
    rw [List.mem_map]
    constructor
    · rintro ⟨v, hv, rfl⟩
      exact ⟨rfl, of_decide_eq_true (List.mem_filter.mp hv).2⟩
    · rintro ⟨h1, h2⟩
      refine ⟨e.1, List.mem_filter.mpr ⟨(List.mergeSort_perm _ _).mem_iff.mpr ?_, decide_eq_true (by rw [← h1]; exact h2)⟩, by rw [← h1]⟩
      obtain ⟨r, hr, q⟩ := mem_of_cnt (h1 ▸ h2)
      obtain ⟨a, ha, q2⟩ := (h.mem e.1).mpr ⟨r, hr, q⟩
      exact List.mem_map.mpr ⟨a, ha, q2⟩
/-! values hold no place of the store -/
mutual
theorem pw_lt {n : Nat} : ∀ (d : D) (p : PyData), pw0 d = some p → d.lt n = true
  | .non, _, _ => rfl
  | .bl _, _, _ => rfl
  | .int _, _, _ => rfl
  | .str _, _, _ => rfl
  | .tup ds, p, h => by
    obtain ⟨ps, _, h'⟩ := pw_inv h
    exact pws_lt ds ps h'
  | .lf ds, p, h => by
    have h : (pws0 ds).map PyData.list = some p := h
    obtain ⟨ps, e, _⟩ := Option.map_eq_some_iff.mp h
    exact pws_lt ds ps e
  | .ld _ _, p, h => by cases h
  | .obj _, p, h => by cases h
theorem pws_lt {n : Nat} : ∀ (ds : List D) (ps : List PyData), pws0 ds = some ps → D.ltAll n ds = true
  | [], _, _ => rfl
  | d :: ds, ps, h => by
    obtain ⟨q, qs, rfl, h1, h2⟩ := pws_inv h
    show (D.lt n d && D.ltAll n ds) = true
    rw [pw_lt d q h1, pws_lt ds qs h2]; rfl
end
theorem pd_lt {n m : Nat} {d : D} (h : Pd m d) : d.lt n = true := by obtain ⟨p, e, _⟩ := h; exact pw_lt d p e
theorem vd_lt {n : Nat} {k : Kd} {d : D} (h : VD k d) : d.lt n = true := pd_lt (vd_pd k d h)
theorem rows_lt {n : Nat} {k : Kd} {rs : Rw} (h : ∀ r ∈ rs, VD k r.1) : D.ltAll n (rs.map rowV) = true := ltAll_mem fun z hz => by
  obtain ⟨r, hr, rfl⟩ := List.mem_map.mp hz
  exact pd_lt (.row (vd_pd k r.1 (h r hr)))
end Nv

set_option Elab.async false
set_option maxRecDepth 100000
set_option autoImplicit false
set_option linter.all false
set_option maxHeartbeats 4000000
/-! Pp: nestviews.papers -/
namespace Nv.Pp
open PySem PySem.Spec PyProof.Rows L2
def b_p_gathered (c g : Str → Nat) : Sm := (.cons (.set (.v 1) .dnew) (.cons (.for_ (.c (.v 2) (.c (.v 3) .n)) (.var 0) (.cons (.setI (.var 1) (.var 2)
    (.bin .add (.dget (.var 1) (.var 2) (.int 0)) (.var 3))) .nil)) (.cons (.ret (.b1 .tuple (.cp (.tup (.cons
    (.var 2) (.cons (.ix (.var 1) (.var 2)) .nil))) (.v 2) (.b1 .sorted (.var 1)) (.cmp .ne (.ix (.var 1) (.var
    2)) (.int 0)) [2]))) .nil)))
def f_p_gathered (c g : Str → Nat) : Fn := ⟨"gathered", ["rows"], ["rows", "counts", "value", "count"], b_p_gathered c g⟩
def b_p_added (c g : Str → Nat) : Sm := (.cons (.ret (.call (c "gathered") (.cons (.frz (.bin .add (.b1 .list (.var 0)) (.b1 .list (.var 1)))) .nil)))
    .nil)
def f_p_added (c g : Str → Nat) : Fn := ⟨"added", ["one", "other"], ["one", "other"], b_p_added c g⟩
def b_p_taken (c g : Str → Nat) : Sm := (.cons (.ret (.call (c "gathered") (.cons (.frz (.cp (.tup (.cons (.var 2) (.cons (.bin .mul (.var 3) (.var
    1)) .nil))) (.c (.v 2) (.c (.v 3) .n)) (.var 0) .nil [2, 3])) .nil))) .nil)
def f_p_taken (c g : Str → Nat) : Fn := ⟨"taken", ["paper", "many"], ["paper", "many", "value", "count"], b_p_taken c g⟩
def b_p_opposite (c g : Str → Nat) : Sm := (.cons (.ret (.call (c "taken") (.cons (.var 0) (.cons (.neg (.int 1)) .nil)))) .nil)
def f_p_opposite (c g : Str → Nat) : Fn := ⟨"opposite", ["paper"], ["paper"], b_p_opposite c g⟩
def b_p_is_bag (c g : Str → Nat) : Sm := (.cons (.ret (.b1 .all (.cp (.cmp .gt (.var 2) (.int 0)) (.c (.v 1) (.c (.v 2) .n)) (.var 0) .nil [1, 2])))
    .nil)
def f_p_is_bag (c g : Str → Nat) : Fn := ⟨"is_bag", ["paper"], ["paper", "value", "count"], b_p_is_bag c g⟩
end Nv.Pp

namespace Nv.Pp
open PySem PySem.Spec PyProof.Rows L2
variable {T : Tab} {c g : Str → Nat}
structure EPp (T : Tab) (c g : Str → Nat) : Prop where
  gathered : T.fns[c "gathered"]? = some (f_p_gathered c g)
/-- how rows are told: a frozen list, a list of the store -/
inductive Told (s : Sto) (rs : Rw) : D → Option (Nat × List D) → Prop
  | lf : Told s rs (.lf (rs.map rowV)) none
  | obj {i : Nat} : s[i]? = some (Ob.lst (rs.map rowV)) → Told s rs (.obj i) (some (i, rs.map rowV))
theorem Told.its {s g : Sto} {rs : Rw} {d : D} {src : Option (Nat × List D)} (h : Told s rs d src) : itsR (s ++ g) (.d d) = some ⟨rs.map rowV, src⟩ := by
  cases h with
  | lf => rfl
  | obj h =>
    rename_i i
    have : (s ++ g)[i]? = some (Ob.lst (rs.map rowV)) := by rw [List.getElem?_append_left (List.getElem?_eq_some_iff.mp h).1]; exact h
    exact its_obj this
theorem Told.src {s g : Sto} {rs : Rw} {d : D} {src : Option (Nat × List D)} (h : Told s rs d src) : srcOk src (s ++ g) := by
  cases h with
  | lf => trivial
  | obj h =>
    show (s ++ g)[_]? = _
    rw [List.getElem?_append_left (List.getElem?_eq_some_iff.mp h).1]; exact h
abbrev gBody : Sm := .cons (.setI (.var 1) (.var 2) (.bin .add (.dget (.var 1) (.var 2) (.int 0)) (.var 3))) .nil
theorem gath_loop {β : Type} {n : Nat} {k : Kd} (hk : dep k ≤ 4) {s : Sto} {d0 : D} {src : Option (Nat × List D)} (hsrc : ∀ g, srcOk src (s ++ g)) : ∀ (rest done acc : Rw) (o2 o3 : Option D), (∀ r ∈ done ++ rest, VD k r.1) → Js done acc → done.length + rest.length ≤ 1000 →
    ∃ acc' o2' o3', Js (done ++ rest) acc' ∧ ∀ j : Fl → Loc → Sto → Res β, forK (.c (.v 2) (.c (.v 3) .n)) src (sden (callN T n) T.gc gBody) (rest.map rowV) [some d0, some (.obj s.length), o2, o3] (s ++ [.dct (dI acc)]) j = j .nx [some d0, some (.obj s.length), o2', o3'] (s ++ [.dct (dI acc')])
  | [], done, acc, o2, o3, hv, hj, hl => ⟨acc, o2, o3, by rw [List.append_nil]; exact hj, fun j => for_nil (hsrc _)⟩
  | r :: rest, done, acc, o2, o3, hv, hj, hl => by
    obtain ⟨rv, rn⟩ := r
    have hvd : VD k rv := hv (rv, rn) (by simp)
    have da := da_vd hk (s := s ++ [.dct (dI acc)]) (i := s.length) (kvs := dI acc) mid_at (fun e he => by
      obtain ⟨a, ha, rfl⟩ := List.mem_map.mp he
      exact hj.vd (fun z hz => hv z (List.mem_append_left _ hz)) a ha) hvd
    have g1 := da.get (.int 0)
    rw [lk_dI] at g1
    have g2 := da.set (.int (getI acc rv + rn)) (by rw [List.length_map, sizeLine_eq]; have := hj.le; omega)
    rw [put_dI, set_mid] at g2
    have dk := da.ok
    rw [List.length_cons] at hl
    obtain ⟨acc', o2', o3', h1, h2⟩ := gath_loop (β := β) (n := n) (d0 := d0) hk hsrc rest (done ++ [(rv, rn)]) _ (some rv) (some (.int rn)) (by rw [List.append_assoc]; exact hv) (hj.step (rv, rn)) (by rw [List.length_append, List.length_singleton]; omega)
    refine ⟨acc', o2', o3', by rw [List.append_assoc] at h1; exact h1, fun j => ?_⟩
    rw [List.map_cons, for_cons (hsrc _)]
    have e : ∀ F : Fl → Loc → Sto → Res β, btK (bindT (.c (.v 2) (.c (.v 3) .n)) (.tup [rv, .int rn]) [some d0, some (.obj s.length), o2, o3]) (fun l1 => sk (callN T n) T.gc gBody l1 (s ++ [.dct (dI acc)]) F) = F .nx [some d0, some (.obj s.length), some rv, some (.int rn)] (s ++ [.dct (dI (putI acc rv (getI acc rv + rn)))]) := fun F => by
      simp -implicitDefEqProofs [dg_okG dk, g1, g2, -List.map_map]
    show (btK (bindT (.c (.v 2) (.c (.v 3) .n)) (.tup [rv, .int rn]) [some d0, some (.obj s.length), o2, o3]) fun l1 => _) = _
    rw [e]
    exact h2 j
theorem t_gathered (E : EPp T c g) {m : Nat} {s : Sto} {k : Kd} {rs : Rw} {d : D} {src : Option (Nat × List D)} (hm : 1 ≤ m) (hs : Clo s) (ht : Told s rs d src) (hk : dep k ≤ 4) (hv : ∀ r ∈ rs, VD k r.1) (hl : rs.length ≤ 1000) :
    ∃ L, IsG rs L ∧ callN T m (c "gathered") [d] s = .ok (.d (.tup (L.map rowV))) s := by
  obtain ⟨n, rfl⟩ : ∃ n, m = n + 1 := ⟨m - 1, by omega⟩
  obtain ⟨acc, o2, o3, hj, e1⟩ := gath_loop (β := RD) (T := T) (n := n) (d0 := d) hk (fun g => ht.src (g := g)) rs [] [] none none (by simpa using hv) Js.nil (by simpa using hl)
  rw [List.nil_append] at hj
  have hva : ∀ e ∈ acc, VD k e.1 := hj.vd hv
  have es := sorted_d hk (s := s ++ [.dct (dI acc)]) (i := s.length) (kvs := dI acc) mid_at (fun e he => by
    obtain ⟨a, ha, rfl⟩ := List.mem_map.mp he
    exact hva a ha) (by rw [List.length_map]; have := hj.le; omega)
  have hmap : (dI acc).map (·.1) = acc.map (·.1) := by rw [List.map_map]; rfl
  rw [hmap] at es
  have ek : ∀ v ∈ (acc.map (·.1)).mergeSort leD, ixR (s ++ [.dct (dI acc)]) (.d (.obj s.length)) (.d v) = some (.d (.int (cnt rs v))) := fun v hv' => by
    obtain ⟨a, ha, rfl⟩ := List.mem_map.mp ((List.mergeSort_perm _ _).mem_iff.mp hv')
    have da := da_vd hk (s := s ++ [.dct (dI acc)]) (i := s.length) (kvs := dI acc) mid_at (fun e he => by
      obtain ⟨a, ha, rfl⟩ := List.mem_map.mp he
      exact hva a ha) (hva a ha)
    rw [← hj.eq a ha]
    exact da.ix _ (lk_dI' hj.nd ha)
  refine ⟨outG rs acc, hj.out, ?_⟩
  have hout := hj.out.vd hv
  have hfin : Nv.fin s.length (.d (.tup ((outG rs acc).map rowV))) (s ++ [.dct (dI acc)]) = .ok (.d (.tup ((outG rs acc).map rowV))) s := fin_g hs (rows_lt hout)
  have hD : (outG rs acc).map rowV = (((acc.map (·.1)).mergeSort leD).filter fun v => decide (cnt rs v ≠ 0)).map fun v => D.tup [v, .int (cnt rs v)] := by
    unfold outG
    rw [List.map_map]
    rfl
  have hlen : ((acc.map (·.1)).mergeSort leD).length ≤ sizeLine := by
    rw [(List.mergeSort_perm _ _).length_eq, List.length_map, sizeLine_eq]; have := hj.le; omega
  have it := ht.its (g := [.dct (dI [])])
  have it : itsR (s ++ [.dct []]) (.d d) = some ⟨rs.map rowV, src⟩ := it
  have e1 : ∀ j : Fl → Loc → Sto → Res RD, forK (.c (.v 2) (.c (.v 3) .n)) src (sden (callN T n) T.gc gBody) (rs.map rowV) [some d, some (.obj s.length), none, none] (s ++ [.dct []]) j = j .nx [some d, some (.obj s.length), o2, o3] (s ++ [.dct (dI acc)]) := e1
  generalize hS : s ++ [Ob.dct (dI acc)] = s1 at *
  have hcp : ∀ kk : List D → Sto → Res RD, cpK (.v 2) none (den (callN T n) T.gc (.cmp .ne (.ix (.var 1) (.var 2)) (.int 0))).b (den (callN T n) T.gc (.tup (.cons (.var 2) (.cons (.ix (.var 1) (.var 2)) .nil)))).v (wipeL [some d, some (.obj s.length), o2, o3] [2]) ((acc.map (·.1)).mergeSort leD) [] s1 kk = kk ((outG rs acc).map rowV) s1 := fun kk => by
    show cpK _ _ _ _ [some d, some (.obj s.length), none, o3] _ _ _ _ = _
    rw [cp_if (p := fun v => decide (cnt rs v ≠ 0)) (f := fun v => D.tup [v, .int (cnt rs v)]) (src := none) trivial (by rw [List.length_nil, Nat.zero_add]; exact hlen) (fun v hv' K1 K2 => ?_) kk, List.nil_append, ← hD]
    have := ek v hv'
    by_cases hz : cnt rs v = 0
    · simp -implicitDefEqProofs [this, hz]
    · simp -implicitDefEqProofs [this, hz]
  rw [call_at E.gathered rfl]
  generalize (outG rs acc).map rowV = out at *
  generalize rs.map rowV = R at *
  generalize (acc.map (·.1)).mergeSort leD = ks at *
  simp -implicitDefEqProofs [f_p_gathered, b_p_gathered, it, e1, es, hcp, hfin]
end Nv.Pp

set_option Elab.async false
set_option maxRecDepth 100000
set_option autoImplicit false
set_option linter.all false
set_option maxHeartbeats 4000000
/-! Pp2: papers added, taken, opposite -/
namespace Nv
open PySem PySem.Spec PyProof.Rows L2
theorem all2_maps {α : Type} {R : D → D → Prop} {f h : α → D} : ∀ {A : List α}, (∀ a ∈ A, R (f a) (h a)) → All2 R (A.map f) (A.map h)
  | [], _ => .nil
  | a :: A, q => .cons (q a (.head _)) (all2_maps fun z hz => q z (.tail _ hz))
theorem bls_map {α : Type} {f : α → Bool} : ∀ A : List α, blsOf (A.map fun a => D.bl (f a)) = some (A.map f)
  | [] => rfl
  | a :: A => by
    show (blsOf (A.map fun a => D.bl (f a))).map (f a :: ·) = _
    rw [bls_map A]; rfl
theorem small_wide {i j : Int} (h1 : i.natAbs < 2 ^ 3000) (h2 : j.natAbs < 2 ^ 3000) : CMulW i j := wide_mul h1 h2 (by decide) (by decide) (by decide)
end Nv
namespace Nv.Pp
open PySem PySem.Spec PyProof.Rows L2
variable {T : Tab} {c g : Str → Nat}
structure EPa (T : Tab) (c g : Str → Nat) extends EPp T c g : Prop where
  added : T.fns[c "added"]? = some (f_p_added c g)
structure EPt (T : Tab) (c g : Str → Nat) extends EPp T c g : Prop where
  taken : T.fns[c "taken"]? = some (f_p_taken c g)
structure EPo (T : Tab) (c g : Str → Nat) extends EPt T c g : Prop where
  opposite : T.fns[c "opposite"]? = some (f_p_opposite c g)
theorem t_added (E : EPa T c g) {m : Nat} {s : Sto} {k : Kd} {A B : Rw} (hm : 2 ≤ m) (hs : Clo s) (hk : dep k ≤ 4) (hA : ∀ r ∈ A, VD k r.1) (hB : ∀ r ∈ B, VD k r.1) (hl : A.length + B.length ≤ 1000) :
    ∃ L, IsG (A ++ B) L ∧ callN T m (c "added") [.tup (A.map rowV), .tup (B.map rowV)] s = .ok (.d (.tup (L.map rowV))) s := by
  obtain ⟨n, rfl⟩ : ∃ n, m = n + 1 := ⟨m - 1, by omega⟩
  have hv : ∀ r ∈ A ++ B, VD k r.1 := fun r hr => by
    rcases List.mem_append.mp hr with q | q
    · exact hA r q
    · exact hB r q
  obtain ⟨L, h1, e1⟩ := t_gathered E.toEPp (m := n) (s := s) (k := k) (rs := A ++ B) (d := .lf ((A ++ B).map rowV)) (src := none) (by omega) hs .lf hk hv (by rw [List.length_append]; exact hl)
  refine ⟨L, h1, ?_⟩
  rw [List.map_append] at e1
  have hle : (A.map rowV).length + (B.map rowV).length ≤ sizeLine := by rw [List.length_map, List.length_map, sizeLine_eq]; omega
  have hout := h1.vd hv
  have hfin : Nv.fin s.length (.d (.tup (L.map rowV))) s = .ok (.d (.tup (L.map rowV))) s := fin_pure hs (rows_lt hout)
  have hadd := bin_ll (s := s) hle
  rw [call_at E.added rfl]
  generalize A.map rowV = A' at *
  generalize B.map rowV = B' at *
  generalize L.map rowV = L' at *
  simp -implicitDefEqProofs [f_p_added, b_p_added, hadd, callK_of e1, hfin, -bin_ll]
theorem t_taken (E : EPt T c g) {m : Nat} {s : Sto} {k : Kd} {A : Rw} {z : Int} (hm : 2 ≤ m) (hs : Clo s) (hk : dep k ≤ 4) (hA : ∀ r ∈ A, VD k r.1) (hl : A.length ≤ 1000) (hz : ∀ r ∈ A, CMulW r.2 z) :
    ∃ L, IsG (A.map fun r => (r.1, r.2 * z)) L ∧ callN T m (c "taken") [.tup (A.map rowV), .int z] s = .ok (.d (.tup (L.map rowV))) s := by
  obtain ⟨n, rfl⟩ : ∃ n, m = n + 1 := ⟨m - 1, by omega⟩
  have hv : ∀ r ∈ (A.map fun r => (r.1, r.2 * z)), VD k r.1 := fun r hr => by
    obtain ⟨a, ha, rfl⟩ := List.mem_map.mp hr
    exact hA a ha
  obtain ⟨L, h1, e1⟩ := t_gathered E.toEPp (m := n) (s := s) (k := k) (rs := A.map fun r => (r.1, r.2 * z)) (d := .lf ((A.map fun r => (r.1, r.2 * z)).map rowV)) (src := none) (by omega) hs .lf hk hv (by rw [List.length_map]; exact hl)
  refine ⟨L, h1, ?_⟩
  have hout := h1.vd hv
  have hfin : Nv.fin s.length (.d (.tup (L.map rowV))) s = .ok (.d (.tup (L.map rowV))) s := fin_pure hs (rows_lt hout)
  have hcp : ∀ kk : List D → Sto → Res RD, cpK (.c (.v 2) (.c (.v 3) .n)) none (den (callN T n) T.gc .nil).b (den (callN T n) T.gc (.tup (.cons (.var 2) (.cons (.bin .mul (.var 3) (.var 1)) .nil)))).v (wipeL [some (.tup (A.map rowV)), some (.int z), none, none] [2, 3]) (A.map rowV) [] s kk = kk ((A.map fun r => (r.1, r.2 * z)).map rowV) s := fun kk => by
    show cpK _ _ _ _ [some (.tup (A.map rowV)), some (.int z), none, none] _ _ _ _ = _
    rw [List.map_map, cp_all (src := none) trivial (by rw [List.length_nil, List.length_map, sizeLine_eq]; omega) (all2_maps fun r hr K1 K2 => ?_) kk, List.nil_append]
    have hmul := bin_mulW (s := s) (hz r hr)
    obtain ⟨rv, rn⟩ := r
    generalize A.map rowV = A' at *
    show btK (bindT _ (.tup [rv, .int rn]) _) _ = K1 (.tup [rv, .int (rn * z)]) s
    simp -implicitDefEqProofs [hmul]
  rw [call_at E.taken rfl]
  generalize (A.map fun r => (r.1, r.2 * z)).map rowV = A2 at *
  generalize A.map rowV = A' at *
  generalize L.map rowV = L' at *
  simp -implicitDefEqProofs [f_p_taken, b_p_taken, hcp, callK_of e1, hfin]
theorem t_opposite (E : EPo T c g) {m : Nat} {s : Sto} {k : Kd} {A : Rw} (hm : 3 ≤ m) (hs : Clo s) (hk : dep k ≤ 4) (hA : ∀ r ∈ A, VD k r.1) (hl : A.length ≤ 1000) (hz : ∀ r ∈ A, CMulW r.2 (-1)) :
    ∃ L, IsG (A.map fun r => (r.1, r.2 * (-1))) L ∧ callN T m (c "opposite") [.tup (A.map rowV)] s = .ok (.d (.tup (L.map rowV))) s := by
  obtain ⟨n, rfl⟩ : ∃ n, m = n + 1 := ⟨m - 1, by omega⟩
  obtain ⟨L, h1, e1⟩ := t_taken E.toEPt (m := n) (s := s) (k := k) (A := A) (z := -1) (by omega) hs hk hA hl hz
  refine ⟨L, h1, ?_⟩
  have hout := h1.vd (k := k) fun r hr => by
    obtain ⟨a, ha, rfl⟩ := List.mem_map.mp hr
    exact hA a ha
  have hfin : Nv.fin s.length (.d (.tup (L.map rowV))) s = .ok (.d (.tup (L.map rowV))) s := fin_pure hs (rows_lt hout)
  rw [call_at E.opposite rfl]
  generalize A.map rowV = A' at *
  generalize L.map rowV = L' at *
  simp -implicitDefEqProofs [f_p_opposite, b_p_opposite, callK_of e1, hfin]
/-- is_bag -/
theorem t_is_bag {m : Nat} {s : Sto} {A : Rw} (E : T.fns[c "is_bag"]? = some (f_p_is_bag c g)) (hm : 1 ≤ m) (hs : Clo s) (hl : A.length ≤ 1000) :
    callN T m (c "is_bag") [.tup (A.map rowV)] s = .ok (.d (.bl (A.all fun r => decide (0 < r.2)))) s := by
  obtain ⟨n, rfl⟩ : ∃ n, m = n + 1 := ⟨m - 1, by omega⟩
  have hcp : ∀ kk : List D → Sto → Res RD, cpK (.c (.v 1) (.c (.v 2) .n)) none (den (callN T n) T.gc .nil).b (den (callN T n) T.gc (.cmp .gt (.var 2) (.int 0))).v (wipeL [some (.tup (A.map rowV)), none, none] [1, 2]) (A.map rowV) [] s kk = kk (A.map fun r => D.bl (decide (0 < r.2))) s := fun kk => by
    show cpK _ _ _ _ [some (.tup (A.map rowV)), none, none] _ _ _ _ = _
    rw [cp_all (src := none) trivial (by rw [List.length_nil, List.length_map, sizeLine_eq]; omega) (all2_maps fun r hr K1 K2 => ?_) kk, List.nil_append]
    obtain ⟨rv, rn⟩ := r
    generalize A.map rowV = A' at *
    show btK (bindT _ (.tup [rv, .int rn]) _) _ = K1 (.bl (decide (0 < rn))) s
    simp -implicitDefEqProofs
  have hall : b1R .all s (.l (A.map fun r => D.bl (decide (0 < r.2)))) = some (.d (.bl (A.all fun r => decide (0 < r.2)))) := by
    show ((asL s (.l (A.map fun r => D.bl (decide (0 < r.2))))).bind blsOf).map _ = _
    show (blsOf (A.map fun r => D.bl (decide (0 < r.2)))).map _ = _
    rw [bls_map]
    show some (RD.d (.bl ((A.map fun r => decide (0 < r.2)).all id))) = _
    rw [List.all_map]
    rfl
  have hfin : Nv.fin s.length (.d (.bl (A.all fun r => decide (0 < r.2)))) s = .ok (.d (.bl (A.all fun r => decide (0 < r.2)))) s := fin_pure hs rfl
  rw [call_at E rfl]
  generalize (A.map fun r => D.bl (decide (0 < r.2))) = A2 at *
  generalize (A.all fun r => decide (0 < r.2)) = b at *
  generalize A.map rowV = A' at *
  simp -implicitDefEqProofs [f_p_is_bag, b_p_is_bag, hcp, hall, hfin]
end Nv.Pp

set_option Elab.async false
set_option maxRecDepth 100000
set_option autoImplicit false
set_option linter.all false
set_option maxHeartbeats 4000000
/-! V1: the draws of kinds and values that k11 to k16 share -/
namespace Nv.V1
open PySem PySem.Spec PyProof.Rows L2
def b_cell_at (c g : Str → Nat) : Sm := (.cons (.ret (.ife (.cmp .lt (.var 1) (.b1 .len (.var 0))) (.ix (.var 0) (.var 1)) (.int 0))) .nil)
def f_cell_at (c g : Str → Nat) : Fn := ⟨"_law_cell_at", ["_law_script", "_law_k"], ["_law_script", "_law_k"], b_cell_at c g⟩
def b_pot (c g : Str → Nat) : Sm := (.cons (.ifs (.cmp .ge (.var 0) (.bin .pow (.int 10) (.int 18))) (.cons (.ret (.lst (.cons (.var 0) (.cons
    (.bin .add (.int 48271) (.var 1)) .nil)))) .nil) .nil) (.cons (.ret (.lst (.cons (.int 0) (.cons (.bin .mod
    (.bin .add (.bin .add (.bin .add (.bin .mul (.var 0) (.int 48271)) (.bin .mul (.bin .mul (.int 6967) (.var 1))
    (.var 1))) (.bin .mul (.int 977) (.var 1))) (.int 4099)) (.int 2147483647)) .nil)))) .nil))
def f_pot (c g : Str → Nat) : Fn := ⟨"_law_pot", ["_law_cell", "_law_k"], ["_law_cell", "_law_k"], b_pot c g⟩
def b_take (c g : Str → Nat) : Sm := (.cons (.ifs (.cmp .gt (.ix (.var 0) (.int 0)) (.int 0)) (.cons (.set (.v 2) (.bin .mod (.ix (.var 0) (.int
    0)) (.var 1))) (.cons (.setI (.var 0) (.int 0) (.bin .fdiv (.ix (.var 0) (.int 0)) (.var 1))) (.cons (.ret
    (.var 2)) .nil))) .nil) (.cons (.setI (.var 0) (.int 1) (.bin .mod (.bin .add (.bin .mul (.ix (.var 0) (.int
    1)) (.int 39373)) (.int 7919)) (.int 2147483629))) (.cons (.ret (.bin .mod (.bin .fdiv (.bin .mod (.bin .mul
    (.ix (.var 0) (.int 1)) (.ix (.var 0) (.int 1))) (.int 2147483563)) (.int 11)) (.var 1))) .nil)))
def f_take (c g : Str → Nat) : Fn := ⟨"_law_take", ["_law_pot_here", "_law_many"], ["_law_pot_here", "_law_many", "_law_digit"], b_take c g⟩
def b_called (c g : Str → Nat) : Sm := (.cons (.ifs (.cmp .gt (.call (c "_law_take") (.cons (.var 0) (.cons (.int 3) .nil))) (.int 0)) (.cons (.ret
    (.ix (.lst (.cons (.str "a") (.cons (.str "ab") (.cons (.str "b") (.cons (.str "c") (.cons (.str "key") (.cons
    (.str "x") .nil))))))) (.call (c "_law_take") (.cons (.var 0) (.cons (.int 6) .nil))))) .nil) .nil) (.cons
    (.set (.v 1) (.str "")) (.cons (.for_ (.v 2) (.i1 .range (.bin .add (.int 1) (.call (c "_law_take") (.cons
    (.var 0) (.cons (.int 8) .nil))))) (.cons (.set (.v 1) (.bin .add (.var 1) (.ix (.str
    "abcdefghijklmnopqrstuvwxyz") (.call (c "_law_take") (.cons (.var 0) (.cons (.int 26) .nil)))))) .nil)) (.cons
    (.ret (.var 1)) .nil))))
def f_called (c g : Str → Nat) : Fn := ⟨"_law_called", ["_law_pot_here"], ["_law_pot_here", "_law_found", "_law_k"], b_called c g⟩
def b_rows (c g : Str → Nat) : Sm := (.cons (.set (.v 4) .dnew) (.cons (.for_ (.v 5) (.i1 .range (.bin .add (.var 3) (.call (c "_law_take") (.cons
    (.var 0) (.cons (.bin .sub (.int 4) (.var 3)) .nil))))) (.cons (.set (.v 6) (.frz (.call (c "_law_called")
    (.cons (.var 0) .nil)))) (.cons (.setI (.var 4) (.var 6) (.frz (.call (c "_law_kind") (.cons (.var 0) (.cons
    (.bin .sub (.var 1) (.int 1)) (.cons (.var 2) .nil)))))) .nil))) (.cons (.ret (.b1 .tuple (.si (.var 4))))
    .nil)))
def f_rows (c g : Str → Nat) : Fn := ⟨"_law_rows", ["_law_pot_here", "_law_deep", "_law_flat", "_law_few"], ["_law_pot_here", "_law_deep", "_law_flat", "_law_few", "_law_found", "_law_k", "_law_name"], b_rows c g⟩
def b_kind (c g : Str → Nat) : Sm := (.cons (.set (.v 3) (.frz (.call (c "_law_take") (.cons (.var 0) (.cons (.int 8) .nil))))) (.cons (.ifs (.or
    (.cmp .eq (.var 1) (.int 0)) (.cmp .lt (.var 3) (.int 3))) (.cons (.ret (.ix (.lst (.cons (.tup (.cons (.str
    "number") .nil)) (.cons (.tup (.cons (.str "text") .nil)) (.cons (.tup (.cons (.str "truth") .nil)) .nil))))
    (.bin .mod (.var 3) (.int 3)))) .nil) .nil) (.cons (.ifs (.cmp .eq (.var 3) (.int 3)) (.cons (.ret (.tup
    (.cons (.str "choice") (.cons (.frz (.call (c "_law_rows") (.cons (.var 0) (.cons (.var 1) (.cons (.bl true)
    (.cons (.int 1) .nil)))))) .nil)))) .nil) .nil) (.cons (.ifs (.or (.cmp .lt (.var 3) (.int 6)) (.var 2))
    (.cons (.ret (.tup (.cons (.str "record") (.cons (.frz (.call (c "_law_rows") (.cons (.var 0) (.cons (.var 1)
    (.cons (.var 2) (.cons (.int 0) .nil)))))) .nil)))) .nil) .nil) (.cons (.ret (.tup (.cons (.str "bag") (.cons
    (.frz (.call (c "_law_kind") (.cons (.var 0) (.cons (.bin .sub (.var 1) (.int 1)) (.cons (.var 2) .nil)))))
    .nil)))) .nil)))))
def f_kind (c g : Str → Nat) : Fn := ⟨"_law_kind", ["_law_pot_here", "_law_deep", "_law_flat"], ["_law_pot_here", "_law_deep", "_law_flat", "_law_way"], b_kind c g⟩
def b_text (c g : Str → Nat) : Sm := (.cons (.set (.v 1) (.frz (.lst (.cons (.str "\",\x20\"") (.cons (.str "\"") (.cons (.str "\\") (.cons (.str
    "\\\"") (.cons (.str "\x20*\x202") (.cons (.str "]\x20*\x202") (.cons (.str "],\x20[") (.cons (.str
    "},\x20b:\x20") (.cons (.str ")") (.cons (.str "yes") (.cons (.str "\"a\"\x20*\x203,\x20\"b\"")
    .nil)))))))))))))) (.cons (.ifs (.cmp .eq (.call (c "_law_take") (.cons (.var 0) (.cons (.int 4) .nil))) (.int
    3)) (.cons (.ret (.ix (.var 1) (.call (c "_law_take") (.cons (.var 0) (.cons (.int 11) .nil))))) .nil) .nil)
    (.cons (.set (.v 2) (.bin .add (.bin .add (.str "\x20!#$&'()*+,-./0123456789:;<=>?@ABCXYZ[]^_`abcxyz{|}~")
    (.str "\"")) (.str "\\"))) (.cons (.set (.v 3) (.str "")) (.cons (.for_ (.v 4) (.i1 .range (.bin .mul (.call
    (c "_law_take") (.cons (.var 0) (.cons (.int 4) .nil))) (.call (c "_law_take") (.cons (.var 0) (.cons (.int 9)
    .nil))))) (.cons (.set (.v 3) (.bin .add (.var 3) (.ix (.var 2) (.call (c "_law_take") (.cons (.var 0) (.cons
    (.b1 .len (.var 2)) .nil)))))) .nil)) (.cons (.ret (.var 3)) .nil))))))
def f_text (c g : Str → Nat) : Fn := ⟨"_law_text", ["_law_pot_here"], ["_law_pot_here", "_law_some", "_law_signs", "_law_found", "_law_k"], b_text c g⟩
def b_number (c g : Str → Nat) : Sm := (.cons (.ifs (.cmp .gt (.call (c "_law_take") (.cons (.var 0) (.cons (.int 4) .nil))) (.int 0)) (.cons (.ret
    (.bin .sub (.call (c "_law_take") (.cons (.var 0) (.cons (.int 7) .nil))) (.int 3))) .nil) .nil) (.cons (.ret
    (.bin .add (.bin .sub (.call (c "_law_take") (.cons (.var 0) (.cons (.bin .sub (.bin .mul (.int 2) (.bin .pow
    (.int 10) (.int 60))) (.int 1)) .nil))) (.bin .pow (.int 10) (.int 60))) (.int 1))) .nil))
def f_number (c g : Str → Nat) : Fn := ⟨"_law_number", ["_law_pot_here"], ["_law_pot_here"], b_number c g⟩
def b_value (c g : Str → Nat) : Sm := (.cons (.ifs (.cmp .eq (.ix (.var 1) (.int 0)) (.str "number")) (.cons (.ret (.call (c "_law_number") (.cons
    (.var 0) .nil))) .nil) .nil) (.cons (.ifs (.cmp .eq (.ix (.var 1) (.int 0)) (.str "text")) (.cons (.ret (.call
    (c "_law_text") (.cons (.var 0) .nil))) .nil) .nil) (.cons (.ifs (.cmp .eq (.ix (.var 1) (.int 0)) (.str
    "truth")) (.cons (.ret (.cmp .eq (.call (c "_law_take") (.cons (.var 0) (.cons (.int 2) .nil))) (.int 1)))
    .nil) .nil) (.cons (.ifs (.cmp .eq (.ix (.var 1) (.int 0)) (.str "record")) (.cons (.ret (.b1 .tuple (.cp
    (.frz (.call (c "_law_value") (.cons (.var 0) (.cons (.ix (.var 6) (.int 1)) .nil)))) (.v 6) (.ix (.var 1)
    (.int 1)) .nil [6]))) .nil) .nil) (.cons (.ifs (.cmp .eq (.ix (.var 1) (.int 0)) (.str "choice")) (.cons (.set
    (.c (.v 4) (.c (.v 5) .n)) (.ix (.ix (.var 1) (.int 1)) (.call (c "_law_take") (.cons (.var 0) (.cons (.b1
    .len (.ix (.var 1) (.int 1))) .nil))))) (.cons (.ret (.tup (.cons (.var 4) (.cons (.frz (.call (c
    "_law_value") (.cons (.var 0) (.cons (.var 5) .nil)))) .nil)))) .nil)) .nil) (.cons (.set (.v 2) .dnew) (.cons
    (.for_ (.v 3) (.i1 .range (.call (c "_law_take") (.cons (.var 0) (.cons (.int 4) .nil)))) (.cons (.setI (.var
    2) (.call (c "_law_value") (.cons (.var 0) (.cons (.ix (.var 1) (.int 1)) .nil))) (.bin .add (.int 1) (.bin
    .mul (.call (c "_law_take") (.cons (.var 0) (.cons (.int 3) .nil))) (.call (c "_law_take") (.cons (.var 0)
    (.cons (.int 333) .nil)))))) .nil)) (.cons (.ret (.b1 .tuple (.si (.var 2)))) .nil))))))))
def f_value (c g : Str → Nat) : Fn := ⟨"_law_value", ["_law_pot_here", "_law_kind_here"], ["_law_pot_here", "_law_kind_here", "_law_found", "_law_k", "_law_name", "_law_inner", "_law_row"], b_value c g⟩
def b_listed (c g : Str → Nat) : Sm := (.cons (.set (.v 2) (.lst .nil)) (.cons (.for_ (.v 3) (.i1 .range (.call (c "_law_take") (.cons (.var 0)
    (.cons (.int 7) .nil)))) (.cons (.set (.v 4) (.bin .sub (.call (c "_law_take") (.cons (.var 0) (.cons (.int 7)
    .nil))) (.int 3))) (.cons (.ifs (.cmp .eq (.call (c "_law_take") (.cons (.var 0) (.cons (.int 5) .nil))) (.int
    4)) (.cons (.set (.v 4) (.bin .add (.bin .sub (.call (c "_law_take") (.cons (.var 0) (.cons (.bin .sub (.bin
    .mul (.int 2) (.bin .pow (.int 10) (.int 57))) (.int 1)) .nil))) (.bin .pow (.int 10) (.int 57))) (.int 1)))
    .nil) .nil) (.cons (.ex (.m1 .append (.var 2) (.tup (.cons (.frz (.call (c "_law_value") (.cons (.var 0)
    (.cons (.var 1) .nil)))) (.cons (.var 4) .nil))))) (.cons (.ifs (.cmp .eq (.call (c "_law_take") (.cons (.var
    0) (.cons (.int 2) .nil))) (.int 1)) (.cons (.ex (.m1 .append (.var 2) (.tup (.cons (.ix (.ix (.var 2) (.call
    (c "_law_take") (.cons (.var 0) (.cons (.b1 .len (.var 2)) .nil)))) (.int 0)) (.cons (.bin .sub (.call (c
    "_law_take") (.cons (.var 0) (.cons (.int 7) .nil))) (.int 3)) .nil))))) .nil) .nil) .nil))))) (.cons (.ret
    (.var 2)) .nil)))
def f_listed (c g : Str → Nat) : Fn := ⟨"_law_listed", ["_law_pot_here", "_law_kind_here"], ["_law_pot_here", "_law_kind_here", "_law_found", "_law_k", "_law_often"], b_listed c g⟩
def b_summed (c g : Str → Nat) : Sm := (.cons (.set (.v 1) (.lst .nil)) (.cons (.for_ (.v 2) (.b1 .sorted (.cp (.ix (.var 4) (.int 0)) (.v 4) (.var
    0) .nil [4])) (.cons (.set (.v 3) (.b1 .sum (.cp (.ix (.var 4) (.int 1)) (.v 4) (.var 0) (.cmp .eq (.ix (.var
    4) (.int 0)) (.var 2)) [4]))) (.cons (.ifs (.and (.cmp .ne (.var 3) (.int 0)) (.or (.cmp .eq (.var 1) (.lst
    .nil)) (.cmp .ne (.ix (.ix (.var 1) (.neg (.int 1))) (.int 0)) (.var 2)))) (.cons (.ex (.m1 .append (.var 1)
    (.tup (.cons (.var 2) (.cons (.var 3) .nil))))) .nil) .nil) .nil))) (.cons (.ret (.b1 .tuple (.var 1)))
    .nil)))
def f_summed (c g : Str → Nat) : Fn := ⟨"_law_summed", ["_law_rows_here"], ["_law_rows_here", "_law_found", "_law_value_here", "_law_often", "_law_row"], b_summed c g⟩
def b_is (c g : Str → Nat) : Sm := (.cons (.ifs (.or (.nt (.isin (.var 0) .tuple)) (.cmp .ne (.var 0) (.var 1))) (.cons (.ret (.bl false)) .nil)
    .nil) (.cons (.for_ (.v 2) (.var 0) (.cons (.ifs (.or (.nt (.isin (.var 2) .tuple)) (.or (.nt (.isin (.ix
    (.var 2) (.int 1)) .int)) (.isin (.ix (.var 2) (.int 1)) .bool))) (.cons (.ret (.bl false)) .nil) .nil) .nil))
    (.cons (.ret (.bl true)) .nil)))
def f_is (c g : Str → Nat) : Fn := ⟨"_law_is", ["_law_found", "_law_due"], ["_law_found", "_law_due", "_law_row"], b_is c g⟩
end Nv.V1
namespace Nv
open PySem PySem.Spec PyProof.Rows L2
/-- a text of at most n signs -/
def TxO (n : Nat) (x : Str) : Prop := x.length ≤ n ∧ PyData.strOk x = true
theorem txo_app {n m : Nat} {x y : Str} (h : TxO n x) (g : TxO m y) : TxO (n + m) (x ++ y) := by
  have e : (x ++ y).cps = x.cps ++ y.cps := rfl
  refine ⟨?_, ?_⟩
  · have h1 : x.cps.size ≤ n := h.1
    have g1 : y.cps.size ≤ m := g.1
    show (x ++ y).cps.size ≤ n + m
    rw [e, Array.size_append]; omega
  · have h2 : x.cps.all (fun c => decide (c < 0x110000)) = true := h.2
    have g2 : y.cps.all (fun c => decide (c < 0x110000)) = true := g.2
    show (x ++ y).cps.all (fun c => decide (c < 0x110000)) = true
    rw [e, Array.all_append, h2, g2]; rfl
theorem txo_len {n : Nat} {x y : Str} (h : TxO n x) (hy : y.length ≤ 1) (hn : n ≤ 1000) : x.length + y.length ≤ sizeLine := by
  have := h.1
  rw [sizeLine_eq]; omega
theorem Pc.app {k p : Nat} {s g s2 : Sto} (hl : p < s.length) (h : Pc k p (s ++ g) s2) : ∃ s', s2 = s' ++ g ∧ Pc k p s s' := by
  obtain ⟨⟨is, l, rfl⟩, ht⟩ := h
  rw [List.set_append_left _ _ hl] at ht ⊢
  exact ⟨_, rfl, ⟨is, l, rfl⟩, by rw [third_app (by rw [List.length_set]; exact hl), third_app hl] at ht; exact ht⟩
end Nv
namespace Nv.V1
open PySem PySem.Spec PyProof.Rows L2
variable {T : Tab} {c g : Str → Nat}
structure EV (T : Tab) (c g : Str → Nat) : Prop where
  cell_at : T.fns[c "_law_cell_at"]? = some (f_cell_at c g)
  pot : T.fns[c "_law_pot"]? = some (f_pot c g)
  take : T.fns[c "_law_take"]? = some (f_take c g)
  called : T.fns[c "_law_called"]? = some (f_called c g)
  rows : T.fns[c "_law_rows"]? = some (f_rows c g)
  kind : T.fns[c "_law_kind"]? = some (f_kind c g)
  text : T.fns[c "_law_text"]? = some (f_text c g)
  number : T.fns[c "_law_number"]? = some (f_number c g)
  value : T.fns[c "_law_value"]? = some (f_value c g)
open Classical in
theorem bin_pow {s : Sto} {i j : Int} (h : CPow i j) : binR .pow s (.d (.int i)) (.d (.int j)) = some (.d (.int (i ^ j.toNat))) := by
  show (if CPow i j then some (i ^ j.toNat) else none).map _ = _
  rw [if_pos h]; rfl
theorem divW {k : Int} {i : Int} (h1 : 0 < k) (h2 : k < 2 ^ 250) : CDivW i k := wide_div (b := 250) h1 (by omega) (by decide) (by decide)
theorem two_of {α : Type} {xs : List α} (h : xs.length = 2) : ∃ x y, xs = [x, y] := by
  match xs, h with
  | [x, y], _ => exact ⟨x, y, rfl⟩
theorem third_2 {s : Sto} {p : Nat} {is : List Int} (h : s[p]? = some (potL is)) (h2 : is.length = 2) : third s p = 0 := by
  obtain ⟨x, y, rfl⟩ := two_of h2
  unfold third; rw [h]; rfl
theorem mk2 {s : Sto} {p : Nat} {a b x y : Int} (h : s[p]? = some (.lst [.int a, .int b])) : Pc 2 p s (s.set p (potL [x, y])) := by
  have hl := (List.getElem?_eq_some_iff.mp h).1
  refine ⟨⟨_, rfl, rfl⟩, ?_⟩
  rw [third_2 (is := [x, y]) (List.getElem?_set_self hl) rfl, third_2 (is := [a, b]) h rfl]
theorem t_take (E : EV T c g) {m p : Nat} {s : Sto} {k : Int} (hm : 1 ≤ m) (hp : PotAt 2 p s) (h1 : 0 < k) (h2 : k < 2 ^ 250) : ∃ d s', 0 ≤ d ∧ d < k ∧ Pc 2 p s s' ∧ callN T m (c "_law_take") [.obj p, .int k] s = .ok (.d (.int d)) s' := by
  obtain ⟨n, rfl⟩ : ∃ n, m = n + 1 := ⟨m - 1, by omega⟩
  rw [call_at E.take rfl]
  obtain ⟨is, hl3, hp'⟩ := hp.at_
  obtain ⟨a, b, rfl⟩ := two_of hl3
  have hp' : s[p]? = some (Ob.lst [.int a, .int b]) := hp'
  have hl := hp.lt
  have k0 : k ≠ 0 := by omega
  have hs : ∀ o, (s.set p o)[p]? = some o := fun o => List.getElem?_set_self hl
  have d1 : CDivW a k := divW h1 h2
  have fin1 : ∀ (x y z : Int), Nv.fin s.length (.d (.int x)) (s.set p (.lst [.int y, .int z])) = .ok (.d (.int x)) (s.set p (potL [y, z])) := fun x y z => fin_set (by rw [List.length_set]) (hp.clo.set rfl) rfl
  by_cases h0 : 0 < a
  · refine ⟨a.fmod k, _, Int.fmod_nonneg_of_pos _ h1, Int.fmod_lt_of_pos _ h1, mk2 (x := a.fdiv k) (y := b) hp', ?_⟩
    simp -implicitDefEqProofs [f_take, b_take, hp', k0, h0, fin1, bin_fdivW d1, hs]
  · have c1 : CMul b 39373 := mul_const (by decide) (by decide)
    have s1 : 0 ≤ (b * 39373 + 7919).fmod 2147483629 := Int.fmod_nonneg_of_pos _ (by decide)
    have s2 : (b * 39373 + 7919).fmod 2147483629 < 2147483629 := Int.fmod_lt_of_pos _ (by decide)
    have c2 : CMul ((b * 39373 + 7919).fmod 2147483629) ((b * 39373 + 7919).fmod 2147483629) := mul_small s1 (by omega)
    have c3 : CDivW (((b * 39373 + 7919).fmod 2147483629 * (b * 39373 + 7919).fmod 2147483629).fmod 2147483563) 11 := divW (by decide) (by decide)
    refine ⟨((((b * 39373 + 7919).fmod 2147483629 * (b * 39373 + 7919).fmod 2147483629).fmod 2147483563).fdiv 11).fmod k, _, Int.fmod_nonneg_of_pos _ h1, Int.fmod_lt_of_pos _ h1, mk2 (x := a) (y := (b * 39373 + 7919).fmod 2147483629) hp', ?_⟩
    simp -implicitDefEqProofs [f_take, b_take, hp', k0, h0, fin1, c1, c2, bin_fdivW c3, hs]
theorem t_pot (E : EV T c g) {m : Nat} {s : Sto} {x k : Int} (hm : 1 ≤ m) (hs : Clo s) (h0 : 0 ≤ k) (h1 : k ≤ 100) : ∃ a b : Int, callN T m (c "_law_pot") [.int x, .int k] s = .ok (.l [.int a, .int b]) s := by
  obtain ⟨n, rfl⟩ : ∃ n, m = n + 1 := ⟨m - 1, by omega⟩
  rw [call_at E.pot rfl]
  have hf : ∀ a b : Int, Nv.fin s.length (.l [.int a, .int b]) s = .ok (.l [.int a, .int b]) s := fun a b => fin_pure hs rfl
  have c1 : CMul x 48271 := mul_const (by decide) (by decide)
  have c2 : CMul 6967 k := mul_small (by decide) (by decide)
  have c3 : CMul (6967 * k) k := mul_small (by omega) (by omega)
  have c4 : CMul 977 k := mul_small (by decide) (by decide)
  have cp : binR .pow s (.d (.int 10)) (.d (.int 18)) = some (.d (.int 1000000000000000000)) := by
    rw [bin_pow ⟨by decide, by decide, by decide⟩]; rfl
  by_cases hx : (10 : Int) ^ 18 ≤ x
  · refine ⟨x, 48271 + k, ?_⟩
    have hx' : (1000000000000000000 : Int) ≤ x := by have : (10 : Int) ^ 18 = 1000000000000000000 := by decide
                                                     omega
    simp -implicitDefEqProofs [f_pot, b_pot, cp, hx', hf]
  · refine ⟨0, (x * 48271 + 6967 * k * k + 977 * k + 4099).fmod 2147483647, ?_⟩
    have hx' : ¬ (1000000000000000000 : Int) ≤ x := by have : (10 : Int) ^ 18 = 1000000000000000000 := by decide
                                                       omega
    simp -implicitDefEqProofs [f_pot, b_pot, cp, hx', hf, c1, c2, c3, c4]
theorem t_cell_at (E : EV T c g) {m : Nat} {s : Sto} {ns : List Int} {k : Nat} (hm : 1 ≤ m) (hs : Clo s) : ∃ z : Int, callN T m (c "_law_cell_at") [.lf (ns.map D.int), .int k] s = .ok (.d (.int z)) s := by
  obtain ⟨n, rfl⟩ : ∃ n, m = n + 1 := ⟨m - 1, by omega⟩
  rw [call_at E.cell_at rfl]
  have hf : ∀ z : Int, Nv.fin s.length (.d (.int z)) s = .ok (.d (.int z)) s := fun z => fin_pure hs rfl
  have hlen : ((ns.map D.int).length : Int) = ns.length := by rw [List.length_map]
  by_cases hk : (k : Int) < ns.length
  · have hk' : k < ns.length := by omega
    have ea : atI (ns.map D.int) k = some (.int ns[k]) := by rw [atI_map, atI_nat (List.getElem?_eq_getElem hk')]; rfl
    refine ⟨ns[k], ?_⟩
    generalize ns.map D.int = N at *
    simp -implicitDefEqProofs [f_cell_at, b_cell_at, hlen, hk, ea, hf]
  · refine ⟨0, ?_⟩
    generalize ns.map D.int = N at *
    simp -implicitDefEqProofs [f_cell_at, b_cell_at, hlen, hk, hf]
def LB : List Str := ["a", "ab", "b", "c", "key", "x"]
theorem LB_ok : ∀ x ∈ LB, TxO 8 x := by unfold TxO; decide +kernel
/-- a sign of a text -/
theorem sign_at {s : Sto} {x : Str} {N : Nat} (hx : x.length = N) (hN : N ≤ 200) (ho : PyData.strOk x = true) {d : Int} (h1 : 0 ≤ d) (h2 : d < N) : ∃ y, TxO 1 y ∧ y.length ≤ 1 ∧ ixR s (.d (.str x)) (.d (.int d)) = some (.d (.str y)) := by
  obtain ⟨k, rfl⟩ := Int.eq_ofNat_of_zero_le h1
  have hl : x.cps.toList.length = N := by rw [Array.length_toList]; exact hx
  have hk : k < x.cps.toList.length := by omega
  have ea : atI x.cps.toList k = some x.cps.toList[k] := atI_nat (List.getElem?_eq_getElem hk)
  refine ⟨⟨#[x.cps.toList[k]]⟩, ⟨Nat.le_refl 1, ?_⟩, Nat.le_refl 1, ?_⟩
  · have ho' : x.cps.all (fun c => decide (c < 0x110000)) = true := ho
    show (#[x.cps.toList[k]] : Array Nat).all (fun c => decide (c < 0x110000)) = true
    rw [← Array.all_toList] at ho'
    have := List.all_eq_true.mp ho' _ (List.getElem_mem hk)
    simpa using this
  · show ixR1 s (.d (.str x)) (.d (.int k)) = _
    unfold ixR1
    show ixR0 s (.d (.str x)) (.d (.int k)) = _
    show (if x.length ≤ sizeLine then (atI x.cps.toList k).map (fun c => RD.d (.str ⟨#[c]⟩)) else none) = _
    rw [if_pos (by rw [hx, sizeLine_eq]; omega), ea]; rfl
theorem t_called (E : EV T c g) {m p : Nat} {s : Sto} (hm : 2 ≤ m) (hp : PotAt 2 p s) : ∃ x s', TxO 8 x ∧ Pc 2 p s s' ∧ callN T m (c "_law_called") [.obj p] s = .ok (.d (.str x)) s' := by
  obtain ⟨n, rfl⟩ : ∃ n, m = n + 1 := ⟨m - 1, by omega⟩
  obtain ⟨w, s1, w1, w2, p1, e1⟩ := t_take E (m := n) (k := 3) (by omega) hp (by decide) (by decide)
  have hp1 := p1.at_ hp
  by_cases hw : 0 < w
  · obtain ⟨d, s2, d1, d2, p2, e2⟩ := t_take E (m := n) (k := 6) (by omega) hp1 (by decide) (by decide)
    obtain ⟨x, hx, ex⟩ := at_mem (xs := LB) d1 d2
    have ea : atI [D.str "a", .str "ab", .str "b", .str "c", .str "key", .str "x"] d = some (.str x) := by
      show atI (LB.map D.str) d = _
      rw [atI_map, ex]; rfl
    have hf := (p2.at_ hp1).fin (r := .d (.str x)) (n := s.length) (by rw [p2.len, p1.len]) rfl
    refine ⟨x, s2, LB_ok x hx, p1.trans p2, ?_⟩
    rw [call_at E.called rfl]
    simp -implicitDefEqProofs [f_called, b_called, callK_of e1, hw, callK_of e2, ea, hf]
  · obtain ⟨v, s2, v1, v2, p2, e2⟩ := t_take E (m := n) (k := 8) (by omega) hp1 (by decide) (by decide)
    have hp2 := p2.at_ hp1
    have hr := range_ok (s := s2) (j := 1 + v) (small_of (by omega) (by omega))
    have hlen : (upTo 0 (1 + v).toNat).length ≤ 8 := by rw [up_len]; omega
    generalize upTo 0 (1 + v).toNat = U at *
    obtain ⟨l2, s3, ⟨y, o, b, rfl, hy, hb, p3⟩, ef⟩ := for_go (β := RD) (cf := callN T n) (g := T.gc) (tg := .v 2) (src := none) (u := .cons (.set (.v 1) (.bin .add (.var 1) (.ix (.str "abcdefghijklmnopqrstuvwxyz") (.call (c "_law_take") (.cons (.var 0) (.cons (.int 26) .nil)))))) .nil)
      (I := fun ds l s' => ∃ (y : Str) (o : Option D) (b : Nat), l = [some (.obj p), some (.str y), o] ∧ TxO b y ∧ b + ds.length ≤ 8 ∧ Pc 2 p s2 s') (ds := U) (l := [some (.obj p), some (.str ""), none]) (s := s2) ⟨"", none, 0, rfl, ⟨Nat.le_refl _, by decide +kernel⟩, by omega, hp2.refl⟩ (fun _ _ _ _ => trivial) (fun x ds l s4 ⟨y, o, b, hl, hy, hb, p4⟩ => by
        subst hl
        obtain ⟨d, s5, d1, d2, p5, e5⟩ := t_take E (m := n) (k := 26) (by omega) (p4.at_ hp2) (by decide) (by decide)
        obtain ⟨z, z1, z2, ez⟩ := sign_at (s := s5) (x := "abcdefghijklmnopqrstuvwxyz") (N := 26) (by decide +kernel) (by decide) (by decide +kernel) d1 d2
        rw [List.length_cons] at hb
        have hz := txo_len hy z2 (by omega)
        refine ⟨[some (.obj p), some (.str (y ++ z)), some x], s5, ⟨_, _, b + 1, rfl, txo_app hy z1, by omega, p4.trans p5⟩, fun F => ?_⟩
        simp -implicitDefEqProofs [callK_of e5, ez, hz])
    simp only [List.length_nil, Nat.add_zero] at hb
    have hf := (p3.at_ hp2).fin (r := .d (.str y)) (n := s.length) (by rw [p3.len, p2.len, p1.len]) rfl
    refine ⟨y, s3, ⟨Nat.le_trans hy.1 hb, hy.2⟩, (p1.trans p2).trans p3, ?_⟩
    rw [call_at E.called rfl]
    simp -implicitDefEqProofs [f_called, b_called, callK_of e1, hw, callK_of e2, hr, ef, hf]
end Nv.V1

set_option Elab.async false
set_option maxRecDepth 100000
set_option autoImplicit false
set_option linter.all false
set_option maxHeartbeats 4000000
/-! V1b: texts, numbers, kinds drawn -/
namespace Nv
open PySem PySem.Spec PyProof.Rows L2
mutual
def okV : Kd → Prop
  | .leaf x => x = "number" ∨ x = "text" ∨ x = "truth"
  | .bag k => okV k
  | .rcd ks => okVs ks ∧ ks.names.length ≤ 100
  | .cho ks => okVs ks ∧ ks.names.Nodup ∧ ks.names ≠ [] ∧ ks.names.length ≤ 100
def okVs : Ks → Prop
  | .nil => True
  | .cons n k r => TxO 8 n ∧ okV k ∧ okVs r
end
/-- rows as pairs -/
def toKs : List (Str × Kd) → Ks
  | [] => .nil
  | e :: r => .cons e.1 e.2 (toKs r)
theorem toKs_D : ∀ es : List (Str × Kd), ksD (toKs es) = es.map fun e => D.tup [.str e.1, kD e.2]
  | [] => rfl
  | e :: r => by rw [List.map_cons, ← toKs_D r]; rfl
theorem toKs_names : ∀ es : List (Str × Kd), (toKs es).names = es.map (·.1)
  | [] => rfl
  | e :: r => by rw [List.map_cons, ← toKs_names r]; rfl
theorem toKs_ok : ∀ {es : List (Str × Kd)}, (∀ e ∈ es, TxO 8 e.1 ∧ okV e.2) → okVs (toKs es)
  | [], _ => trivial
  | e :: r, h => ⟨(h e (.head _)).1, (h e (.head _)).2, toKs_ok fun z hz => h z (.tail _ hz)⟩
theorem toKs_dep {d : Nat} : ∀ {es : List (Str × Kd)}, (∀ e ∈ es, dep e.2 ≤ d) → deps (toKs es) ≤ d
  | [], _ => Nat.zero_le _
  | e :: r, h => by
    show max (dep e.2) (deps (toKs r)) ≤ d
    have := h e (.head _)
    have := toKs_dep (es := r) fun z hz => h z (.tail _ hz)
    omega
mutual
theorem okV_lt {n : Nat} : ∀ (k : Kd), (kD k).lt n = true
  | .leaf x => rfl
  | .bag k => by show (true && ((kD k).lt n && true)) = true; rw [okV_lt k]; rfl
  | .rcd ks => by show (true && (D.ltAll n (ksD ks) && true)) = true; rw [okVs_lt ks]; rfl
  | .cho ks => by show (true && (D.ltAll n (ksD ks) && true)) = true; rw [okVs_lt ks]; rfl
theorem okVs_lt {n : Nat} : ∀ (ks : Ks), D.ltAll n (ksD ks) = true
  | .nil => rfl
  | .cons m k r => by show ((true && ((kD k).lt n && true)) && D.ltAll n (ksD r)) = true; rw [okV_lt k, okVs_lt r]; rfl
end
/-! a dict of texts to anything -/
abbrev eD (es : List (Str × Kd)) : List (D × D) := es.map fun e => (D.str e.1, kD e.2)
open Classical in
noncomputable def putE (es : List (Str × Kd)) (x : Str) (k : Kd) : List (Str × Kd) := if ∃ e ∈ es, e.1 = x then es.map (fun e => if e.1 = x then (e.1, k) else e) else es ++ [(x, k)]
open Classical in
theorem put_eD (es : List (Str × Kd)) (x : Str) (k : Kd) : putD (eD es) (.str x) (kD k) = eD (putE es x k) := by
  unfold putD putE eD
  have hq : (∃ e ∈ es.map (fun e => (D.str e.1, kD e.2)), e.1 = D.str x) ↔ ∃ e ∈ es, e.1 = x := by
    constructor
    · rintro ⟨e, he, q⟩
      obtain ⟨a, ha, rfl⟩ := List.mem_map.mp he
      have q : D.str a.1 = D.str x := q
      injection q with q
      exact ⟨a, ha, q⟩
    · rintro ⟨a, ha, q⟩
      exact ⟨_, List.mem_map.mpr ⟨a, ha, rfl⟩, by show D.str a.1 = D.str x; rw [q]⟩
  by_cases h : ∃ e ∈ es, e.1 = x
  · rw [if_pos (hq.mpr h), if_pos h, List.map_map, List.map_map]
    refine List.map_congr_left fun e _ => ?_
    show (if D.str e.1 = D.str x then (D.str e.1, kD k) else (D.str e.1, kD e.2)) = _
    by_cases h2 : e.1 = x
    · rw [if_pos (by rw [h2])]; simp [h2]
    · rw [if_neg (fun z => h2 (by injection z))]; simp [h2]
  · rw [if_neg fun z => h (hq.mp z), if_neg h, List.map_append]; rfl
theorem putE_mem {es : List (Str × Kd)} {x : Str} {k : Kd} {e : Str × Kd} (h : e ∈ putE es x k) : e ∈ es ∨ e = (x, k) := by
  unfold putE at h
  split at h
  · obtain ⟨a, ha, rfl⟩ := List.mem_map.mp h
    by_cases q : a.1 = x
    · right; rw [if_pos q, q]
    · left; rw [if_neg q]; exact ha
  · rcases List.mem_append.mp h with h | h
    · exact .inl h
    · exact .inr (List.mem_singleton.mp h)
theorem putE_nd {es : List (Str × Kd)} {x : Str} {k : Kd} (h : (es.map (·.1)).Nodup) : ((putE es x k).map (·.1)).Nodup := by
  unfold putE
  split
  · have : (es.map fun e => open Classical in if e.1 = x then (e.1, k) else e).map (·.1) = es.map (·.1) := by
      rw [List.map_map]
      refine List.map_congr_left fun e _ => ?_
      show (open Classical in if e.1 = x then (e.1, k) else e).1 = e.1
      split <;> rfl
    rw [this]; exact h
  · rename_i hx
    rw [List.map_append, List.map_cons, List.map_nil, List.nodup_append]
    refine ⟨h, by simp, fun a ha b hb => ?_⟩
    rw [List.mem_singleton.mp hb]
    rintro rfl
    obtain ⟨e, he, q⟩ := List.mem_map.mp ha
    exact hx ⟨e, he, q⟩
theorem putE_len {es : List (Str × Kd)} {x : Str} {k : Kd} : 1 ≤ (putE es x k).length ∧ (putE es x k).length ≤ es.length + 1 := by
  unfold putE
  split
  · rename_i h
    obtain ⟨e, he, _⟩ := h
    rw [List.length_map]
    have := List.length_pos_of_mem he
    omega
  · rw [List.length_append, List.length_singleton]; omega
/-- sorted(d.items()) of it -/
theorem sorted_e {s : Sto} {i : Nat} {es : List (Str × Kd)} (hs : s[i]? = some (.dct (eD es))) : ∃ es' : List (Str × Kd), es'.Perm es ∧ siR s (.obj i) = some (.l (es'.map fun e => .tup [.str e.1, kD e.2])) := by
  have ek : (eD es).map (·.1) = (es.map (·.1)).map D.str := by rw [List.map_map, List.map_map]; rfl
  have hdk : dK (eD es) = true := by
    unfold dK
    rw [List.all_map, List.all_eq_true]
    intro e _; rfl
  have e1 : dctAt s (.d (.obj i)) = some (eD es) := by rw [dct_obj, hs]; show (if dK (eD es) = true then _ else _) = _; rw [if_pos hdk]
  have hz : ((es.map (·.1)).zip ((eD es).map (·.2))) = es.map fun e => (e.1, kD e.2) := by
    rw [List.map_map]
    exact List.zip_map' ..
  refine ⟨es.mergeSort fun a b => leS a.1 b.1, List.mergeSort_perm _ _, ?_⟩
  unfold siR
  have e2 : siR0 s (.obj i) = some (.l ((es.mergeSort fun a b => leS a.1 b.1).map fun e => .tup [.str e.1, kD e.2])) := by
    unfold siR0
    rw [e1]
    show (strsOf ((eD es).map (·.1))).map _ = _
    rw [ek, strsD_map]
    show some (RD.l _) = _
    rw [hz]
    have : ((es.map fun e => (e.1, kD e.2)).mergeSort fun a b => leS a.1 b.1) = (es.mergeSort fun a b => leS a.1 b.1).map fun e => (e.1, kD e.2) := (sorted_map (f := fun e : Str × Kd => (e.1, kD e.2)) (r := fun a b : Str × Kd => leS a.1 b.1) (s := fun a b : Str × D => leS a.1 b.1) (fun a b => rfl) es).symm
    rw [this, List.map_map]
    rfl
  rw [e2]
end Nv
namespace Nv.V1
open PySem PySem.Spec PyProof.Rows L2
variable {T : Tab} {c g : Str → Nat}
theorem t_number (E : EV T c g) {m p : Nat} {s : Sto} (hm : 2 ≤ m) (hp : PotAt 2 p s) : ∃ i s', -(10 ^ 60) ≤ i ∧ i ≤ 10 ^ 60 ∧ Pc 2 p s s' ∧ callN T m (c "_law_number") [.obj p] s = .ok (.d (.int i)) s' := by
  obtain ⟨n, rfl⟩ : ∃ n, m = n + 1 := ⟨m - 1, by omega⟩
  obtain ⟨a, s1, a1, a2, p1, e1⟩ := t_take E (m := n) (k := 4) (by omega) hp (by decide) (by decide)
  have hp1 := p1.at_ hp
  by_cases h0 : 0 < a
  · obtain ⟨b, s2, b1, b2, p2, e2⟩ := t_take E (m := n) (k := 7) (by omega) hp1 (by decide) (by decide)
    have hf := (p2.at_ hp1).fin (r := .d (.int (b - 3))) (n := s.length) (by rw [p2.len, p1.len]) rfl
    refine ⟨b - 3, s2, by omega, by omega, p1.trans p2, ?_⟩
    rw [call_at E.number rfl]
    simp -implicitDefEqProofs [f_number, b_number, callK_of e1, h0, callK_of e2, hf]
  · obtain ⟨b, s2, b1, b2, p2, e2⟩ := t_take E (m := n) (k := 1999999999999999999999999999999999999999999999999999999999999) (by omega) hp1 (by decide) (by decide)
    have hf := (p2.at_ hp1).fin (r := .d (.int (b - 1000000000000000000000000000000000000000000000000000000000000 + 1))) (n := s.length) (by rw [p2.len, p1.len]) rfl
    have hpw : ∀ s, binR .pow s (.d (.int 10)) (.d (.int 60)) = some (.d (.int 1000000000000000000000000000000000000000000000000000000000000)) := fun s => by
      rw [bin_pow ⟨by decide, by decide, by decide⟩]; rfl
    have hmu : ∀ s, binR .mul s (.d (.int 2)) (.d (.int 1000000000000000000000000000000000000000000000000000000000000)) = some (.d (.int 2000000000000000000000000000000000000000000000000000000000000)) := fun s => bin_mul (.inl ⟨by decide, by decide⟩)
    have hsu : (2000000000000000000000000000000000000000000000000000000000000 : Int) - 1 = 1999999999999999999999999999999999999999999999999999999999999 := by decide
    refine ⟨b - 1000000000000000000000000000000000000000000000000000000000000 + 1, s2, by omega, by omega, p1.trans p2, ?_⟩
    rw [call_at E.number rfl]
    simp -implicitDefEqProofs [f_number, b_number, callK_of e1, h0, hpw, hmu, hsu, callK_of e2, hf]
def TS : List Str := ["\",\x20\"", "\"", "\\", "\\\"", "\x20*\x202", "]\x20*\x202", "],\x20[", "},\x20b:\x20", ")", "yes", "\"a\"\x20*\x203,\x20\"b\""]
theorem TS_ok : ∀ x ∈ TS, TxO 24 x := by unfold TxO; decide +kernel
def S1 : Str := "\x20!#$&'()*+,-./0123456789:;<=>?@ABCXYZ[]^_`abcxyz{|}~"
def SG : Str := (S1 ++ "\"") ++ "\\"
theorem t_text (E : EV T c g) {m p : Nat} {s : Sto} (hm : 2 ≤ m) (hp : PotAt 2 p s) : ∃ x s', TxO 24 x ∧ Pc 2 p s s' ∧ callN T m (c "_law_text") [.obj p] s = .ok (.d (.str x)) s' := by
  obtain ⟨n, rfl⟩ : ∃ n, m = n + 1 := ⟨m - 1, by omega⟩
  obtain ⟨w, s1, w1, w2, p1, e1⟩ := t_take E (m := n) (k := 4) (by omega) hp (by decide) (by decide)
  have hp1 := p1.at_ hp
  by_cases hw : w = 3
  · obtain ⟨d, s2, d1, d2, p2, e2⟩ := t_take E (m := n) (k := 11) (by omega) hp1 (by decide) (by decide)
    obtain ⟨x, hx, ex⟩ := at_mem (xs := TS) d1 d2
    have ea : atI [D.str "\",\x20\"", .str "\"", .str "\\", .str "\\\"", .str "\x20*\x202", .str "]\x20*\x202", .str "],\x20[", .str "},\x20b:\x20", .str ")", .str "yes", .str "\"a\"\x20*\x203,\x20\"b\""] d = some (.str x) := by
      show atI (TS.map D.str) d = _
      rw [atI_map, ex]; rfl
    have hf := (p2.at_ hp1).fin (r := .d (.str x)) (n := s.length) (by rw [p2.len, p1.len]) rfl
    refine ⟨x, s2, TS_ok x hx, p1.trans p2, ?_⟩
    rw [call_at E.text rfl]
    simp -implicitDefEqProofs [f_text, b_text, callK_of e1, hw, callK_of e2, ea, hf]
  · obtain ⟨v, s2, v1, v2, p2, e2⟩ := t_take E (m := n) (k := 4) (by omega) hp1 (by decide) (by decide)
    have hp2 := p2.at_ hp1
    obtain ⟨u, s2', u1, u2, p2', e2'⟩ := t_take E (m := n) (k := 9) (by omega) hp2 (by decide) (by decide)
    have hp2' := p2'.at_ hp2
    have hvu : 0 ≤ v * u ∧ v * u ≤ 24 := by
      have : v = 0 ∨ v = 1 ∨ v = 2 ∨ v = 3 := by omega
      rcases this with rfl | rfl | rfl | rfl <;> omega
    have cm : CMul v u := mul_small v1 (by omega)
    have hr := range_ok (s := s2') (j := v * u) (small_of (by omega) (by omega))
    have hlen : (upTo 0 (v * u).toNat).length ≤ 24 := by rw [up_len]; omega
    have hb1 : ∀ s, binR .add s (.d (.str "\x20!#$&'()*+,-./0123456789:;<=>?@ABCXYZ[]^_`abcxyz{|}~")) (.d (.str "\"")) = some (.d (.str (S1 ++ "\""))) := fun s => bin_str (by decide +kernel)
    have hb2 : ∀ s, binR .add s (.d (.str (S1 ++ "\""))) (.d (.str "\\")) = some (.d (.str SG)) := fun s => bin_str (by decide +kernel)
    have hlS : ∀ s, b1R .len s (.d (.str SG)) = some (.d (.int 54)) := fun s => by
      rw [len_str (by decide +kernel)]
      have : (SG.length : Int)= 54 := by decide +kernel
      rw [this]
    generalize upTo 0 (v * u).toNat = U at *
    obtain ⟨l2, s3, ⟨y, o, b, rfl, hy, hb, p3⟩, ef⟩ := for_go (β := RD) (cf := callN T n) (g := T.gc) (tg := .v 4) (src := none) (u := .cons (.set (.v 3) (.bin .add (.var 3) (.ix (.var 2) (.call (c "_law_take") (.cons (.var 0) (.cons (.b1 .len (.var 2)) .nil)))))) .nil)
      (I := fun ds l s' => ∃ (y : Str) (o : Option D) (b : Nat), l = [some (.obj p), some (.lf (TS.map D.str)), some (.str SG), some (.str y), o] ∧ TxO b y ∧ b + ds.length ≤ 24 ∧ Pc 2 p s2' s') (ds := U) (l := [some (.obj p), some (.lf (TS.map D.str)), some (.str SG), some (.str ""), none]) (s := s2') ⟨"", none, 0, rfl, ⟨Nat.le_refl _, by decide +kernel⟩, by omega, hp2'.refl⟩ (fun _ _ _ _ => trivial) (fun x ds l s4 ⟨y, o, b, hl, hy, hb, p4⟩ => by
        subst hl
        obtain ⟨d, s5, d1, d2, p5, e5⟩ := t_take E (m := n) (k := 54) (by omega) (p4.at_ hp2') (by decide) (by decide)
        obtain ⟨z, z1, z2, ez⟩ := sign_at (s := s5) (x := SG) (N := 54) (by decide +kernel) (by decide) (by decide +kernel) d1 d2
        rw [List.length_cons] at hb
        have hz := txo_len hy z2 (by omega)
        refine ⟨[some (.obj p), some (.lf (TS.map D.str)), some (.str SG), some (.str (y ++ z)), some x], s5, ⟨_, _, b + 1, rfl, txo_app hy z1, by omega, p4.trans p5⟩, fun F => ?_⟩
        generalize TS.map D.str = ts
        generalize SG = sg at *
        simp -implicitDefEqProofs [hlS, callK_of e5, ez, hz])
    simp only [List.length_nil, Nat.add_zero] at hb
    have hf := (p3.at_ hp2').fin (r := .d (.str y)) (n := s.length) (by rw [p3.len, p2'.len, p2.len, p1.len]) rfl
    refine ⟨y, s3, ⟨Nat.le_trans hy.1 hb, hy.2⟩, ((p1.trans p2).trans p2').trans p3, ?_⟩
    have ef : ∀ j : Fl → Loc → Sto → Res RD, _ = _ := ef
    rw [call_at E.text rfl]
    simp only [TS, List.map_cons, List.map_nil] at ef
    generalize SG = sg at *
    generalize S1 ++ "\"" = sg1 at *
    simp -implicitDefEqProofs [f_text, b_text, callK_of e1, hw, callK_of e2, callK_of e2', cm, hb1, hb2, hr, ef, hf]
end Nv.V1

set_option Elab.async false
set_option maxRecDepth 100000
set_option autoImplicit false
set_option linter.all false
set_option maxHeartbeats 4000000
/-! V1c: kinds and values drawn -/
namespace Nv.V1
open PySem PySem.Spec PyProof.Rows L2
variable {T : Tab} {c g : Str → Nat}
theorem eD_lt {n : Nat} {es : List (Str × Kd)} : (Ob.dct (eD es)).lt n = true := by
  show (D.ltAll n ((eD es).map (·.1)) && D.ltAll n ((eD es).map (·.2))) = true
  rw [ltAll_mem fun z hz => ?_, ltAll_mem fun z hz => ?_]
  · rfl
  · rw [List.map_map] at hz
    obtain ⟨e, _, rfl⟩ := List.mem_map.mp hz
    exact okV_lt e.2
  · rw [List.map_map] at hz
    obtain ⟨e, _, rfl⟩ := List.mem_map.mp hz
    rfl
/-- what is said of kinds drawn -/
abbrev KdP (T : Tab) (c : Str → Nat) (d : Nat) (fl : Bool) : Prop := ∀ {m p : Nat} {s : Sto}, 2 * d + 4 ≤ m → PotAt 2 p s → ∃ k s', okV k ∧ dep k ≤ d ∧ Pc 2 p s s' ∧ callN T m (c "_law_kind") [.obj p, .int d, .bl fl] s = .ok (.d (kD k)) s'
theorem t_rows (E : EV T c g) {d m p : Nat} {s : Sto} {fl : Bool} {few : Nat} (hk : KdP T c d fl) (hf1 : few ≤ 1) (hm : 2 * d + 5 ≤ m) (hd : d ≤ 10) (hp : PotAt 2 p s) :
    ∃ ks s', okVs ks ∧ ks.names.Nodup ∧ (few = 1 → ks.names ≠ []) ∧ deps ks ≤ d ∧ ks.names.length ≤ 5 ∧ Pc 2 p s s' ∧ callN T m (c "_law_rows") [.obj p, .int (d + 1), .bl fl, .int few] s = .ok (.d (.tup (ksD ks))) s' := by
  obtain ⟨n, rfl⟩ : ∃ n, m = n + 1 := ⟨m - 1, by omega⟩
  have hl := hp.lt
  have hpd : PotAt 2 p (s ++ [.dct []]) := hp.push rfl
  obtain ⟨w, s1', w1, w2, p1', e1⟩ := t_take E (m := n) (k := 4 - few) (by omega) hpd (by omega) (by omega)
  obtain ⟨s1, rfl, p1⟩ := p1'.app hl
  have hp1 := p1.at_ hp
  have hr := range_ok (s := s1 ++ [.dct []]) (j := (few : Int) + w) (small_of (by omega) (by omega))
  have hlen : (upTo 0 ((few : Int) + w).toNat).length = ((few : Int) + w).toNat := up_len _ _
  generalize hN : ((few : Int) + w).toNat = N at *
  have hN4 : N ≤ 4 := by omega
  have hNf : few = 1 → 1 ≤ N := by omega
  generalize upTo 0 N = U at *
  have hsub : (d : Int) + 1 - 1 = d := by omega
  have hls : s1.length = s.length := p1.len
  obtain ⟨l2, s3, ⟨es, o5, o6, s4, rfl, rfl, h1, h2, h3, h4, p4⟩, ef⟩ := for_go (β := RD) (cf := callN T n) (g := T.gc) (tg := .v 5) (src := none)
    (u := .cons (.set (.v 6) (.frz (.call (c "_law_called") (.cons (.var 0) .nil)))) (.cons (.setI (.var 4) (.var 6) (.frz (.call (c "_law_kind") (.cons (.var 0) (.cons (.bin .sub (.var 1) (.int 1)) (.cons (.var 2) .nil)))))) .nil))
    (I := fun ds l s' => ∃ (es : List (Str × Kd)) (o5 o6 : Option D) (s4 : Sto), l = [some (.obj p), some (.int (d + 1)), some (.bl fl), some (.int few), some (.obj s.length), o5, o6] ∧ s' = s4 ++ [.dct (eD es)] ∧ (∀ e ∈ es, TxO 8 e.1 ∧ okV e.2 ∧ dep e.2 ≤ d) ∧ (es.map (·.1)).Nodup ∧ es.length + ds.length ≤ N ∧ (ds.length = N ∨ 1 ≤ es.length) ∧ Pc 2 p s1 s4)
    (ds := U) (l := [some (.obj p), some (.int (d + 1)), some (.bl fl), some (.int few), some (.obj s.length), none, none]) (s := s1 ++ [.dct []])
    ⟨[], none, none, s1, rfl, rfl, fun e he => (by cases he), List.nodup_nil, by simp [hlen], .inl hlen, hp1.refl⟩ (fun _ _ _ _ => trivial) (fun x ds l s5 ⟨es, o5, o6, s4, hl', hs5, h1, h2, h3, h4, p4⟩ => by
      subst hl' hs5
      have hp4 := p4.at_ hp1
      have hl4 : s4.length = s.length := by rw [p4.len, hls]
      obtain ⟨y, s6', hy, p6', e6⟩ := t_called E (m := n) (by omega) (hp4.push (o := .dct (eD es)) eD_lt)
      obtain ⟨s6, rfl, p6⟩ := p6'.app hp4.lt
      have hp6 := p6.at_ hp4
      obtain ⟨k, s7', k1, k2, p7', e7⟩ := hk (m := n) (by omega) (hp6.push (o := .dct (eD es)) eD_lt)
      obtain ⟨s7, rfl, p7⟩ := p7'.app hp6.lt
      have hl7 : s7.length = s.length := by rw [p7.len, p6.len, hl4]
      rw [List.length_cons] at h3
      have da := da_vd (k := .leaf "text") (d := .str y) (s := s7 ++ [.dct (eD es)]) (i := s7.length) (kvs := eD es) (by decide) mid_at (fun e he => by
        obtain ⟨a, ha, rfl⟩ := List.mem_map.mp he
        exact .inr (.inl ⟨rfl, a.1, rfl, (h1 a ha).1.2⟩)) (.inr (.inl ⟨rfl, y, rfl, hy.2⟩))
      have hset := da.set (kD k) (by rw [List.length_map, sizeLine_eq]; omega)
      rw [put_eD, set_mid, hl7] at hset
      refine ⟨[some (.obj p), some (.int (d + 1)), some (.bl fl), some (.int few), some (.obj s.length), some x, some (.str y)], s7 ++ [.dct (eD (putE es y k))], ⟨putE es y k, _, _, s7, rfl, rfl, fun e he => ?_, putE_nd h2, ?_, .inr putE_len.1, (p4.trans p6).trans p7⟩, fun F => ?_⟩
      · rcases putE_mem he with q | q
        · exact h1 e q
        · rw [q]; exact ⟨hy, k1, k2⟩
      · have := (putE_len (es := es) (x := y) (k := k)).2
        omega
      · generalize kD k = kd at *
        simp -implicitDefEqProofs [callK_of e6, hsub, callK_of e7, hset, -List.map_map, -setR_str])
  have hl4 : s4.length = s.length := by rw [p4.len, hls]
  obtain ⟨es', pm, esi⟩ := sorted_e (s := s4 ++ [.dct (eD es)]) (i := s4.length) (es := es) mid_at
  rw [hl4] at esi
  have hes' : ∀ e ∈ es', TxO 8 e.1 ∧ okV e.2 ∧ dep e.2 ≤ d := fun e he => h1 e (pm.mem_iff.mp he)
  have hp4 := p4.at_ hp1
  have hfin : Nv.fin s.length (.d (.tup (ksD (toKs es')))) (s4 ++ [.dct (eD es)]) = .ok (.d (.tup (ksD (toKs es')))) s4 := by
    rw [← hl4]
    exact fin_g hp4.clo (okVs_lt _)
  rw [← toKs_D] at esi
  refine ⟨toKs es', s4, toKs_ok fun e he => ⟨(hes' e he).1, (hes' e he).2.1⟩, ?_, fun hf => ?_, toKs_dep fun e he => (hes' e he).2.2, ?_, p1.trans p4, ?_⟩
  · rw [toKs_names]
    exact (pm.map (·.1)).nodup_iff.mpr h2
  · rw [toKs_names]
    intro hq
    have : es'.length = 0 := by rw [List.map_eq_nil_iff.mp hq]; rfl
    rw [pm.length_eq] at this
    rcases h4 with h4 | h4
    · have := hNf hf
      have h4 : 0 = N := h4
      omega
    · omega
  · rw [toKs_names, List.length_map, pm.length_eq]
    simp only [List.length_nil] at h3
    omega
  · have hd4 : (4 : Int) - few = (4 : Int) - few := rfl
    rw [call_at E.rows rfl]
    generalize ksD (toKs es') = R at *
    simp -implicitDefEqProofs [f_rows, b_rows, callK_of e1, hr, ef, esi, hfin]
theorem leaf3 {w : Int} (h1 : 0 ≤ w) (h2 : w < 3) : ∃ x : Str, (x = "number" ∨ x = "text" ∨ x = "truth") ∧ atI [D.tup [.str "number"], .tup [.str "text"], .tup [.str "truth"]] w = some (kD (.leaf x)) := by
  obtain ⟨x, hx, ex⟩ := at_mem (xs := (["number", "text", "truth"] : List Str)) h1 h2
  refine ⟨x, by simpa using hx, ?_⟩
  show atI ((["number", "text", "truth"] : List Str).map fun x => D.tup [.str x]) w = _
  rw [atI_map, ex]; rfl
theorem t_kind (E : EV T c g) : ∀ (d : Nat) (fl : Bool), d ≤ 10 → KdP T c d fl := by
  intro d
  induction d with
  | zero =>
    intro fl hd m p s hm hp
    obtain ⟨n, rfl⟩ : ∃ n, m = n + 1 := ⟨m - 1, by omega⟩
    obtain ⟨w, s1, w1, w2, pc1, e1⟩ := t_take E (m := n) (k := 8) (by omega) hp (by decide) (by decide)
    obtain ⟨x, hx, ex⟩ := leaf3 (w := w.fmod 3) (Int.fmod_nonneg_of_pos _ (by decide)) (Int.fmod_lt_of_pos _ (by decide))
    have hf := (pc1.at_ hp).fin (r := .d (kD (.leaf x))) (n := s.length) (by rw [pc1.len]) (okV_lt (.leaf x))
    refine ⟨.leaf x, s1, hx, Nat.le_refl _, pc1, ?_⟩
    generalize kD (.leaf x) = kd at *
    rw [call_at E.kind rfl]
    simp -implicitDefEqProofs [f_kind, b_kind, callK_of e1, ex, hf]
  | succ d ih =>
    intro fl hd m p s hm hp
    obtain ⟨n, rfl⟩ : ∃ n, m = n + 1 := ⟨m - 1, by omega⟩
    obtain ⟨w, s1, w1, w2, pc1, e1⟩ := t_take E (m := n) (k := 8) (by omega) hp (by decide) (by decide)
    have hp1 := pc1.at_ hp
    have hd0 : ¬ ((d : Int) + 1 = 0) := by omega
    have hsub : (d : Int) + 1 - 1 = d := by omega
    have hc : ((d + 1 : Nat) : Int) = (d : Int) + 1 := by omega
    by_cases hw : w < 3
    · obtain ⟨x, hx, ex⟩ := leaf3 (w := w.fmod 3) (Int.fmod_nonneg_of_pos _ (by decide)) (Int.fmod_lt_of_pos _ (by decide))
      have hf := hp1.fin (r := .d (kD (.leaf x))) (n := s.length) (by rw [pc1.len]) (okV_lt (.leaf x))
      refine ⟨.leaf x, s1, hx, Nat.zero_le _, pc1, ?_⟩
      generalize kD (.leaf x) = kd at *
      rw [call_at E.kind rfl, hc]
      simp -implicitDefEqProofs [f_kind, b_kind, callK_of e1, hw, ex, hf]
    by_cases hw3 : w = 3
    · obtain ⟨ks, s2, k1, k2, k3, k4, k5, p2, e2⟩ := t_rows E (d := d) (few := 1) (fl := true) (m := n) (s := s1) (ih true (by omega)) (by omega) (by omega) (by omega) hp1
      have hf := (p2.at_ hp1).fin (r := .d (kD (.cho ks))) (n := s.length) (by rw [p2.len, pc1.len]) (okV_lt (.cho ks))
      refine ⟨.cho ks, s2, ⟨k1, k2, k3 rfl, by omega⟩, by show deps ks + 1 ≤ _; omega, pc1.trans p2, ?_⟩
      simp only [kD] at hf ⊢
      have e2 : callN T n (c "_law_rows") [.obj p, .int (d + 1), .bl true, .int 1] s1 = .ok (.d (.tup (ksD ks))) s2 := e2
      generalize ksD ks = R at *
      rw [call_at E.kind rfl, hc]
      simp -implicitDefEqProofs [f_kind, b_kind, callK_of e1, hd0, hw, hw3, callK_of e2, hf]
    by_cases hw6 : w < 6 ∨ fl = true
    · obtain ⟨ks, s2, k1, k2, k3, k4, k5, p2, e2⟩ := t_rows E (d := d) (few := 0) (fl := fl) (m := n) (s := s1) (ih fl (by omega)) (by omega) (by omega) (by omega) hp1
      have hf := (p2.at_ hp1).fin (r := .d (kD (.rcd ks))) (n := s.length) (by rw [p2.len, pc1.len]) (okV_lt (.rcd ks))
      refine ⟨.rcd ks, s2, ⟨k1, by omega⟩, by show deps ks + 1 ≤ _; omega, pc1.trans p2, ?_⟩
      simp only [kD] at hf ⊢
      have e2 : callN T n (c "_law_rows") [.obj p, .int (d + 1), .bl fl, .int 0] s1 = .ok (.d (.tup (ksD ks))) s2 := e2
      generalize ksD ks = R at *
      rw [call_at E.kind rfl, hc]
      by_cases h6 : w < 6
      · simp -implicitDefEqProofs [f_kind, b_kind, callK_of e1, hd0, hw, hw3, h6, callK_of e2, hf]
      · have hfl : fl = true := by
          rcases hw6 with q | q
          · exact absurd q h6
          · exact q
        subst hfl
        simp -implicitDefEqProofs [f_kind, b_kind, callK_of e1, hd0, hw, hw3, h6, callK_of e2, hf]
    · have h6 : ¬ w < 6 := fun q => hw6 (.inl q)
      have hfl : fl = false := by
        cases fl with
        | false => rfl
        | true => exact absurd (.inr rfl) hw6
      subst hfl
      obtain ⟨k, s2, k1, k2, p2, e2⟩ := ih false (by omega) (m := n) (by omega) hp1
      have hf := (p2.at_ hp1).fin (r := .d (kD (.bag k))) (n := s.length) (by rw [p2.len, pc1.len]) (okV_lt (.bag k))
      refine ⟨.bag k, s2, k1, by show dep k + 1 ≤ _; omega, pc1.trans p2, ?_⟩
      simp only [kD] at hf ⊢
      generalize kD k = kd at *
      rw [call_at E.kind rfl, hc]
      simp -implicitDefEqProofs [f_kind, b_kind, callK_of e1, hd0, hw, hw3, h6, hsub, callK_of e2, hf]
end Nv.V1

set_option Elab.async false
set_option maxRecDepth 100000
set_option autoImplicit false
set_option linter.all false
set_option maxHeartbeats 4000000
/-! V1d: values drawn -/
namespace Nv.V1
open PySem PySem.Spec PyProof.Rows L2
variable {T : Tab} {c g : Str → Nat}
theorem dI_lt {n : Nat} {k : Kd} {acc : Rw} (h : ∀ e ∈ acc, VD k e.1) : (Ob.dct (dI acc)).lt n = true := by
  show (D.ltAll n ((dI acc).map (·.1)) && D.ltAll n ((dI acc).map (·.2))) = true
  rw [ltAll_mem fun z hz => ?_, ltAll_mem fun z hz => ?_]
  · rfl
  · rw [List.map_map] at hz
    obtain ⟨e, _, rfl⟩ := List.mem_map.mp hz
    rfl
  · rw [List.map_map] at hz
    obtain ⟨e, he, rfl⟩ := List.mem_map.mp hz
    exact vd_lt (h e he)
theorem putI_mem {acc : Rw} {v : D} {n : Int} {e : D × Int} (h : e ∈ putI acc v n) : (∃ a ∈ acc, a.1 = e.1) ∨ e.1 = v := by
  unfold putI at h
  split at h
  · obtain ⟨a, ha, rfl⟩ := List.mem_map.mp h
    left
    refine ⟨a, ha, ?_⟩
    by_cases q : a.1 = v
    · rw [if_pos q]
    · rw [if_neg q]
  · rcases List.mem_append.mp h with h | h
    · exact .inl ⟨e, h, rfl⟩
    · right; rw [List.mem_singleton.mp h]
theorem putI_len {acc : Rw} {v : D} {n : Int} : (putI acc v n).length ≤ acc.length + 1 := by
  unfold putI
  split
  · rw [List.length_map]; omega
  · rw [List.length_append, List.length_singleton]; omega
theorem ksD_len : ∀ ks : Ks, (ksD ks).length = ks.names.length
  | .nil => rfl
  | .cons n k r => by show (ksD r).length + 1 = r.names.length + 1; rw [ksD_len r]
mutual
/-- few rows -/
def fitK : Kd → Prop
  | .leaf _ => True
  | .bag k => fitK k
  | .rcd ks => ks.names.length ≤ 100 ∧ fitKs ks
  | .cho ks => ks.names.length ≤ 100 ∧ fitKs ks
def fitKs : Ks → Prop
  | .nil => True
  | .cons _ k r => fitK k ∧ fitKs r
end
mutual
theorem okV_fit : ∀ (k : Kd), okV k → fitK k
  | .leaf _, _ => trivial
  | .bag k, h => okV_fit k h
  | .rcd ks, h => ⟨h.2, okVs_fit ks h.1⟩
  | .cho ks, h => ⟨h.2.2.2, okVs_fit ks h.1⟩
theorem okVs_fit : ∀ (ks : Ks), okVs ks → fitKs ks
  | .nil, _ => trivial
  | .cons _ k r, h => ⟨okV_fit k h.2.1, okVs_fit r h.2.2⟩
end
/-- of the kind k, a value is drawn -/
abbrev VlP (T : Tab) (c : Str → Nat) (k : Kd) (P : D → Prop) : Prop := ∀ {m p : Nat} {s : Sto}, 2 * dep k + 4 ≤ m → PotAt 2 p s → ∃ v s', P v ∧ (∀ n, v.lt n = true) ∧ Pc 2 p s s' ∧ callN T m (c "_law_value") [.obj p, kD k] s = .ok (.d v) s'
theorem cp_step {β : Type} {cf : Nat → List D → Sto → Res RD} {gg : Nat → Option D} {l : Loc} {tg : Tg} {elt : Ex} {src : Option (Nat × List D)} {x y : D} {ds acc : List D} {s s1 : Sto} (hs : srcOk src s) (hl : acc.length < sizeLine)
    (e1 : ∀ K1 : D → Sto → Res β, btK (bindT tg x l) (fun l1 => evv cf gg elt l1 s K1) = K1 y s1) (k : List D → Sto → Res β) : cpK tg src (den cf gg .nil).b (den cf gg elt).v l (x :: ds) acc s k = cpK tg src (den cf gg .nil).b (den cf gg elt).v l ds (acc ++ [y]) s1 k := by
  have e0 : ∀ (G : Sto → Res β) (F : D → Sto → Res β), btK (bindT tg x l) (fun l1 => evb cf gg .nil l1 s fun t s1 => if t = true then evv cf gg elt l1 s1 F else G s1) = F y s1 := fun G F => by
    rw [← e1 F]
    cases bindT tg x l with
    | none => rfl
    | some l1 =>
      show evb cf gg .nil l1 s _ = evv cf gg elt l1 s F
      rw [evb_nil, if_pos rfl]
  rw [cp_cons hs hl (e0 (fun _ => .no) _), e0 (fun s1 => cpK tg src (den cf gg .nil).b (den cf gg elt).v l ds acc s1 k)]
abbrev elR (c : Str → Nat) : Ex := .frz (.call (c "_law_value") (.cons (.var 0) (.cons (.ix (.var 6) (.int 1)) .nil)))
theorem cp_row {β : Type} {n p : Nat} {v2 v3 v4 v5 : Option D} {kd : D} : ∀ (ks : Ks), KsAll (fun k => VlP T c k (VD k)) ks → ∀ {acc : List D} {s : Sto}, 2 * deps ks + 4 ≤ n → PotAt 2 p s → acc.length + ks.names.length ≤ 1000 →
    ∃ ds s', VDs ks ds ∧ (∀ i, D.ltAll i ds = true) ∧ Pc 2 p s s' ∧ ∀ K : List D → Sto → Res β, cpK (.v 6) none (den (callN T n) T.gc .nil).b (den (callN T n) T.gc (elR c)).v [some (.obj p), some kd, v2, v3, v4, v5, none] (ksD ks) acc s K = K (acc ++ ds) s'
  | .nil, _, acc, s, _, hp, _ => ⟨[], s, rfl, fun _ => rfl, hp.refl, fun K => by show cpK _ _ _ _ _ [] _ _ _ = _; rw [cp_nil (src := none) trivial, List.append_nil]⟩
  | .cons x k r, h, acc, s, hn, hp, hl => by
    have e : deps (.cons x k r) = max (dep k) (deps r) := rfl
    rw [e] at hn
    have hl : acc.length + (r.names.length + 1) ≤ 1000 := hl
    obtain ⟨v, s1, hv, hlt, p1, e1⟩ := h.1 (m := n) (by omega) hp
    obtain ⟨ds, s2, h1, h2, p2, e2⟩ := cp_row (β := β) (n := n) (v2 := v2) (v3 := v3) (v4 := v4) (v5 := v5) (kd := kd) r h.2 (acc := acc ++ [v]) (by omega) (p1.at_ hp) (by rw [List.length_append, List.length_singleton]; omega)
    refine ⟨v :: ds, s2, ⟨v, ds, rfl, hv, h1⟩, fun i => by show (D.lt i v && D.ltAll i ds) = true; rw [hlt, h2]; rfl, p1.trans p2, fun K => ?_⟩
    show cpK _ _ _ _ _ (.tup [.str x, kD k] :: ksD r) _ _ _ = _
    rw [cp_step (src := none) (y := v) (s1 := s1) trivial (by rw [sizeLine_eq]; omega) (fun K1 => ?_), e2, List.append_assoc]
    · rfl
    · generalize kD k = kk at *
      simp -implicitDefEqProofs [callK_of e1]
theorem cho_at {P : Kd → Prop} : ∀ (ks : Ks), KsAll P ks → okVs ks → ks.names.Nodup → ∀ (i : Nat) (row : D), (ksD ks)[i]? = some row → ∃ n k, row = .tup [.str n, kD k] ∧ P k ∧ TxO 8 n ∧ n ∈ ks.names ∧ dep k ≤ deps ks ∧ ∀ v, VD k v → VDc ks n v
  | .nil, _, _, _, i, row, h => by simp [ksD] at h
  | .cons x k r, hP, ho, nd, 0, row, h => by
    have h : some (D.tup [.str x, kD k]) = some row := h
    injection h with h
    exact ⟨x, k, h.symm, hP.1, ho.1, .head _, Nat.le_max_left _ _, fun v hv => .inl ⟨rfl, hv⟩⟩
  | .cons x k r, hP, ho, nd, i + 1, row, h => by
    obtain ⟨n1, n2⟩ := List.nodup_cons.mp nd
    obtain ⟨n, k', e1, e2, e3, e4, e5, e6⟩ := cho_at r hP.2 ho.2.2 n2 i row h
    exact ⟨n, k', e1, e2, e3, .tail _ e4, Nat.le_trans e5 (Nat.le_max_right _ _), fun v hv => .inr ⟨fun q => n1 (q ▸ e4), e6 v hv⟩⟩
def W6 : List Str := ["number", "text", "truth", "record", "choice", "bag"]
theorem kwq {s : Sto} {x y : Str} {b : Bool} (h : x ∈ W6 ∧ y ∈ W6 ∧ decide (x = y) = b) : eqR s (.d (.str x)) (.d (.str y)) = some b := by
  have hl : ∀ z ∈ W6, PyData.canLay0 (.str z) = true := by decide +kernel
  rw [eq_str (hl x h.1) (hl y h.2.1), h.2.2]
abbrev bgBody (c : Str → Nat) : Sm := .cons (.setI (.var 2) (.call (c "_law_value") (.cons (.var 0) (.cons (.ix (.var 1) (.int 1)) .nil))) (.bin .add (.int 1) (.bin .mul (.call (c "_law_take") (.cons (.var 0) (.cons (.int 3) .nil))) (.call (c "_law_take") (.cons (.var 0) (.cons (.int 333) .nil)))))) .nil
mutual
theorem t_value (E : EV T c g) : ∀ (k : Kd), okV k → fitK k → dep k ≤ 4 → VlP T c k (VD k)
  | .leaf x, hk, _, hd, m, p, s, hm, hp => by
    obtain ⟨n, rfl⟩ : ∃ n, m = n + 1 := ⟨m - 1, by omega⟩
    have hm : 4 ≤ n + 1 := by simpa [dep] using hm
    rcases hk with rfl | rfl | rfl
    · have k_number := kwq (s := s) (x := "number") (y := "number") (b := true) (by decide +kernel)
      obtain ⟨i, s1, _, _, p1, e1⟩ := t_number E (m := n) (by omega) hp
      have hf := (p1.at_ hp).fin (r := .d (.int i)) (n := s.length) (by rw [p1.len]) rfl
      refine ⟨.int i, s1, .inl ⟨rfl, i, rfl⟩, fun _ => rfl, p1, ?_⟩
      rw [call_at E.value rfl]
      simp -implicitDefEqProofs [f_value, b_value, kD, k_number, callK_of e1, hf]
    · have k_number := kwq (s := s) (x := "text") (y := "number") (b := false) (by decide +kernel)
      have k_text := kwq (s := s) (x := "text") (y := "text") (b := true) (by decide +kernel)
      obtain ⟨x, s1, hx, p1, e1⟩ := t_text E (m := n) (by omega) hp
      have hf := (p1.at_ hp).fin (r := .d (.str x)) (n := s.length) (by rw [p1.len]) rfl
      refine ⟨.str x, s1, .inr (.inl ⟨rfl, x, rfl, hx.2⟩), fun _ => rfl, p1, ?_⟩
      rw [call_at E.value rfl]
      simp -implicitDefEqProofs [f_value, b_value, kD, k_number, k_text, callK_of e1, hf]
    · have k_number := kwq (s := s) (x := "truth") (y := "number") (b := false) (by decide +kernel)
      have k_text := kwq (s := s) (x := "truth") (y := "text") (b := false) (by decide +kernel)
      have k_truth := kwq (s := s) (x := "truth") (y := "truth") (b := true) (by decide +kernel)
      obtain ⟨a, s1, a1, a2, p1, e1⟩ := t_take E (m := n) (k := 2) (by omega) hp (by decide) (by decide)
      have hf := (p1.at_ hp).fin (r := .d (.bl (decide (a = 1)))) (n := s.length) (by rw [p1.len]) rfl
      refine ⟨.bl (decide (a = 1)), s1, .inr (.inr ⟨rfl, _, rfl⟩), fun _ => rfl, p1, ?_⟩
      rw [call_at E.value rfl]
      simp -implicitDefEqProofs [f_value, b_value, kD, k_number, k_text, k_truth, callK_of e1, hf]
  | .rcd ks, hk, hfit, hd, m, p, s, hm, hp => by
    obtain ⟨n, rfl⟩ : ∃ n, m = n + 1 := ⟨m - 1, by omega⟩
    have hdp : dep (.rcd ks) = deps ks + 1 := rfl
    rw [hdp] at hm hd
    have hall := t_values E ks hk.1 hfit.2 (by omega)
    obtain ⟨ds, s1, h1, h2, p1, e1⟩ := cp_row (T := T) (c := c) (β := RD) (n := n) (p := p) (v2 := none) (v3 := none) (v4 := none) (v5 := none) (kd := .tup [.str "record", .tup (ksD ks)]) ks hall (acc := []) (s := s) (by omega) hp (by have := hfit.1; simp; omega)
    rw [List.nil_append] at e1
    have hv : VD (.rcd ks) (.tup ds) := ⟨ds, rfl, h1⟩
    have hf := (p1.at_ hp).fin (r := .d (.tup ds)) (n := s.length) (by rw [p1.len]) (h2 _)
    refine ⟨.tup ds, s1, hv, fun _ => h2 _, p1, ?_⟩
    have e1 : ∀ K : List D → Sto → Res RD, cpK (.v 6) none (den (callN T n) T.gc .nil).b (den (callN T n) T.gc (elR c)).v (wipeL [some (.obj p), some (.tup [.str "record", .tup (ksD ks)]), none, none, none, none, none] [6]) (ksD ks) [] s K = K ds s1 := e1
    have k_number := kwq (s := s) (x := "record") (y := "number") (b := false) (by decide +kernel)
    have k_text := kwq (s := s) (x := "record") (y := "text") (b := false) (by decide +kernel)
    have k_truth := kwq (s := s) (x := "record") (y := "truth") (b := false) (by decide +kernel)
    have k_record := kwq (s := s) (x := "record") (y := "record") (b := true) (by decide +kernel)
    show callN T (n + 1) _ [.obj p, .tup [.str "record", .tup (ksD ks)]] s = _
    rw [call_at E.value rfl]
    generalize ksD ks = R at *
    simp -implicitDefEqProofs [f_value, b_value, k_number, k_text, k_truth, k_record, e1, hf]
  | .cho ks, hk, hfit, hd, m, p, s, hm, hp => by
    obtain ⟨n, rfl⟩ : ∃ n, m = n + 1 := ⟨m - 1, by omega⟩
    have hdp : dep (.cho ks) = deps ks + 1 := rfl
    rw [hdp] at hm hd
    have hall := t_values E ks hk.1 hfit.2 (by omega)
    have hpos : 0 < ks.names.length := List.length_pos_iff.mpr hk.2.2.1
    have hlen : ((ksD ks).length : Int) = ks.names.length := by rw [ksD_len]
    have hl1 := hfit.1
    obtain ⟨a, s1, a1, a2, p1, e1⟩ := t_take E (m := n) (k := ks.names.length) (by omega) hp (by omega) (by omega)
    obtain ⟨i, rfl⟩ := Int.eq_ofNat_of_zero_le a1
    have hi : i < (ksD ks).length := by rw [ksD_len]; omega
    obtain ⟨x, k, e2, hv, hx, _, hdk, hc⟩ := cho_at ks hall hk.1 hk.2.1 i _ (List.getElem?_eq_getElem hi)
    have ea : atI (ksD ks) (i : Int) = some (.tup [.str x, kD k]) := by rw [atI_nat (List.getElem?_eq_getElem hi), e2]
    obtain ⟨v, s2, v1, v2, p2, e3⟩ := hv (m := n) (by omega) (p1.at_ hp)
    have hV : VD (.cho ks) (.tup [.str x, v]) := ⟨x, v, rfl, hx.2, hc v v1⟩
    have hlt : ∀ i, D.lt i (.tup [.str x, v]) = true := fun i => by show (true && (D.lt i v && true)) = true; rw [v2]; rfl
    have hf := (p2.at_ (p1.at_ hp)).fin (r := .d (.tup [.str x, v])) (n := s.length) (by rw [p2.len, p1.len]) (hlt _)
    refine ⟨.tup [.str x, v], s2, hV, hlt, p1.trans p2, ?_⟩
    rw [← hlen] at e1
    have k_number := kwq (s := s) (x := "choice") (y := "number") (b := false) (by decide +kernel)
    have k_text := kwq (s := s) (x := "choice") (y := "text") (b := false) (by decide +kernel)
    have k_truth := kwq (s := s) (x := "choice") (y := "truth") (b := false) (by decide +kernel)
    have k_record := kwq (s := s) (x := "choice") (y := "record") (b := false) (by decide +kernel)
    have k_choice := kwq (s := s) (x := "choice") (y := "choice") (b := true) (by decide +kernel)
    show callN T (n + 1) _ [.obj p, .tup [.str "choice", .tup (ksD ks)]] s = _
    rw [call_at E.value rfl]
    generalize ksD ks = R at *
    generalize kD k = kk at *
    simp -implicitDefEqProofs [f_value, b_value, k_number, k_text, k_truth, k_record, k_choice, callK_of e1, ea, callK_of e3, hf]
  | .bag k, hk, hfit, hd, m, p, s, hm, hp => by
    obtain ⟨n, rfl⟩ : ∃ n, m = n + 1 := ⟨m - 1, by omega⟩
    have hdp : dep (.bag k) = dep k + 1 := rfl
    rw [hdp] at hm hd
    have hvl : ∀ {m p : Nat} {s : Sto}, 2 * dep k + 4 ≤ m → PotAt 2 p s → ∃ v s', VD k v ∧ (∀ n, v.lt n = true) ∧ Pc 2 p s s' ∧ callN T m (c "_law_value") [.obj p, kD k] s = .ok (.d v) s' := t_value E k hk hfit (by omega)
    have hpd : PotAt 2 p (s ++ [.dct []]) := hp.push rfl
    obtain ⟨w, s1', w1, w2, p1', e1⟩ := t_take E (m := n) (k := 4) (by omega) hpd (by decide) (by decide)
    obtain ⟨s1, rfl, p1⟩ := p1'.app hp.lt
    have hp1 := p1.at_ hp
    have hls : s1.length = s.length := p1.len
    have hr := range_ok (s := s1 ++ [.dct []]) (j := w) (small_of (by omega) (by omega))
    have hlen : (upTo 0 w.toNat).length ≤ 4 := by rw [up_len]; omega
    generalize upTo 0 w.toNat = U at *
    obtain ⟨l2, s3, ⟨acc, o3, s4, rfl, rfl, h1, h2, p4⟩, ef⟩ := for_go (β := RD) (cf := callN T n) (g := T.gc) (tg := .v 3) (src := none) (u := bgBody c)
      (I := fun ds l s' => ∃ (acc : Rw) (o3 : Option D) (s4 : Sto), l = [some (.obj p), some (.tup [.str "bag", kD k]), some (.obj s.length), o3, none, none, none] ∧ s' = s4 ++ [.dct (dI acc)] ∧ (∀ e ∈ acc, VD k e.1) ∧ acc.length + ds.length ≤ 4 ∧ Pc 2 p s1 s4)
      (ds := U) (l := [some (.obj p), some (.tup [.str "bag", kD k]), some (.obj s.length), none, none, none, none]) (s := s1 ++ [.dct []])
      ⟨[], none, s1, rfl, rfl, fun e he => (by cases he), by simpa using hlen, hp1.refl⟩ (fun _ _ _ _ => trivial) (fun x ds l s5 ⟨acc, o3, s4, hl', hs5, h1, h2, p4⟩ => by
        subst hl' hs5
        have hp4 := p4.at_ hp1
        have hl4 : s4.length = s.length := by rw [p4.len, hls]
        obtain ⟨a, s6', a1, a2, p6', e6⟩ := t_take E (m := n) (k := 3) (by omega) (hp4.push (o := .dct (dI acc)) (dI_lt h1)) (by decide) (by decide)
        obtain ⟨s6, rfl, p6⟩ := p6'.app hp4.lt
        have hp6 := p6.at_ hp4
        obtain ⟨b, s7', b1, b2, p7', e7⟩ := t_take E (m := n) (k := 333) (by omega) (hp6.push (o := .dct (dI acc)) (dI_lt h1)) (by decide) (by decide)
        obtain ⟨s7, rfl, p7⟩ := p7'.app hp6.lt
        have hp7 := p7.at_ hp6
        obtain ⟨v, s8', v1, v2, p8', e8⟩ := hvl (m := n) (by omega) (hp7.push (o := .dct (dI acc)) (dI_lt h1))
        obtain ⟨s8, rfl, p8⟩ := p8'.app hp7.lt
        have hl8 : s8.length = s.length := by rw [p8.len, p7.len, p6.len, hl4]
        rw [List.length_cons] at h2
        have da := da_vd (k := k) (d := v) (s := s8 ++ [.dct (dI acc)]) (i := s8.length) (kvs := dI acc) (by omega) mid_at (fun e he => by
          obtain ⟨z, hz, rfl⟩ := List.mem_map.mp he
          exact h1 z hz) v1
        have hset := da.set (.int (1 + a * b)) (by rw [List.length_map, sizeLine_eq]; omega)
        rw [put_dI, set_mid, hl8] at hset
        have cm : CMul a b := mul_small a1 (by omega)
        refine ⟨[some (.obj p), some (.tup [.str "bag", kD k]), some (.obj s.length), some x, none, none, none], s8 ++ [.dct (dI (putI acc v (1 + a * b)))], ⟨putI acc v (1 + a * b), _, s8, rfl, rfl, fun e he => ?_, ?_, ((p4.trans p6).trans p7).trans p8⟩, fun F => ?_⟩
        · rcases putI_mem he with ⟨z, hz, q⟩ | q
          · rw [← q]; exact h1 z hz
          · rw [q]; exact v1
        · have := putI_len (acc := acc) (v := v) (n := 1 + a * b)
          omega
        · generalize kD k = kk at *
          simp -implicitDefEqProofs [callK_of e6, callK_of e7, cm, callK_of e8, hset, -List.map_map])
    have hl4 : s4.length = s.length := by rw [p4.len, hls]
    obtain ⟨rs, pm, esi⟩ := sorted_i (k := k) (s := s4 ++ [.dct (dI acc)]) (i := s4.length) (rs := acc) (by omega) mid_at h1 (by simp only [List.length_nil] at h2; omega)
    rw [hl4] at esi
    have hrs : ∀ r ∈ rs, VD k r.1 := fun r hr => h1 r (pm.mem_iff.mp hr)
    have hV : VD (.bag k) (.tup (rs.map rowV)) := ⟨rs, rfl, hrs⟩
    have hfin : Nv.fin s.length (.d (.tup (rs.map rowV))) (s4 ++ [.dct (dI acc)]) = .ok (.d (.tup (rs.map rowV))) s4 := by
      rw [← hl4]
      exact fin_g (p4.at_ hp1).clo (rows_lt hrs)
    refine ⟨.tup (rs.map rowV), s4, hV, fun _ => rows_lt hrs, p1.trans p4, ?_⟩
    have k_number := fun s => kwq (s := s) (x := "bag") (y := "number") (b := false) (by decide +kernel)
    have k_text := fun s => kwq (s := s) (x := "bag") (y := "text") (b := false) (by decide +kernel)
    have k_truth := fun s => kwq (s := s) (x := "bag") (y := "truth") (b := false) (by decide +kernel)
    have k_record := fun s => kwq (s := s) (x := "bag") (y := "record") (b := false) (by decide +kernel)
    have k_choice := fun s => kwq (s := s) (x := "bag") (y := "choice") (b := false) (by decide +kernel)
    show callN T (n + 1) _ [.obj p, .tup [.str "bag", kD k]] s = _
    rw [call_at E.value rfl]
    generalize kD k = kk at *
    generalize rs.map rowV = R at *
    simp -implicitDefEqProofs [f_value, b_value, k_number, k_text, k_truth, k_record, k_choice, callK_of e1, hr, ef, esi, hfin]
theorem t_values (E : EV T c g) : ∀ (ks : Ks), okVs ks → fitKs ks → deps ks ≤ 4 → KsAll (fun k => VlP T c k (VD k)) ks
  | .nil, _, _, _ => trivial
  | .cons x k r, hk, hf, hd => by
    have e : deps (.cons x k r) = max (dep k) (deps r) := rfl
    rw [e] at hd
    exact ⟨t_value E k hk.2.1 hf.1 (by omega), t_values E r hk.2.2 hf.2 (by omega)⟩
end
end Nv.V1

set_option Elab.async false
set_option maxRecDepth 100000
set_option autoImplicit false
set_option linter.all false
set_option maxHeartbeats 4000000
/-! V1e: rows listed, summed, compared -/
namespace Nv
open PySem PySem.Spec PyProof.Rows L2 Classical
mutual
theorem pw_any {g : Nat → Option PyData} : ∀ (d : D) (p : PyData), pw0 d = some p → pyW g d = some p
  | .non, _, h => h
  | .bl _, _, h => h
  | .int _, _, h => h
  | .str _, _, h => h
  | .tup ds, p, h => by
    obtain ⟨ps, rfl, h'⟩ := pw_inv h
    show (pyWs g ds).map _ = _
    rw [pws_any ds ps h']; rfl
  | .lf ds, p, h => by
    have h : (pws0 ds).map PyData.list = some p := h
    obtain ⟨ps, e, e2⟩ := Option.map_eq_some_iff.mp h
    show (pyWs g ds).map _ = _
    rw [pws_any ds ps e, ← e2]; rfl
  | .ld _ _, p, h => by cases h
  | .obj _, p, h => by cases h
theorem pws_any {g : Nat → Option PyData} : ∀ (ds : List D) (ps : List PyData), pws0 ds = some ps → pyWs g ds = some ps
  | [], _, h => h
  | d :: ds, ps, h => by
    obtain ⟨q, qs, rfl, h1, h2⟩ := pws_inv h
    show (pyW g d).bind _ = _
    rw [pw_any d q h1]
    show (pyWs g ds).map _ = _
    rw [pws_any ds qs h2]; rfl
end
theorem pn_any {s : Sto} {n : Nat} {d : D} {p : PyData} (h : pw0 d = some p) : pyN s n d = some p := by
  cases n with
  | zero => exact h
  | succ n => exact pw_any d p h
theorem shaped_pd {p : PyData} (h1 : pureP p = true) (h2 : p.depth ≤ 64) : SeqAt.shaped p = true := by
  unfold SeqAt.shaped
  rw [pure_lay p h1, decide_eq_true h2]; rfl
theorem eq_pd {s : Sto} {a b : D} {n : Nat} (hn : n ≤ 64) (ha : Pd n a) (hb : Pd n b) (hc : Cm a b) (hi : ∀ p, pw0 a = some p → pw0 b = some p → a = b) : eqR s (.d a) (.d b) = some (decide (a = b)) := by
  obtain ⟨p, e1, e2, e3⟩ := ha
  obtain ⟨q, g1, g2, g3⟩ := hb
  have h1 : pyR s (.d a) = some p := pn_any e1
  have h2 : pyR s (.d b) = some q := pn_any g1
  unfold eqR
  rw [h1, h2]
  simp only
  rw [if_pos ⟨shaped_pd e2 (by omega), shaped_pd g2 (by omega)⟩]
  congr 1
  by_cases h : a = b
  · subst h
    rw [e1] at g1
    cases g1
    rw [decide_eq_true rfl]
    exact SeqAt.eqv_refl p (pure_lay p e2)
  · rw [decide_eq_false h]
    cases q1 : PyData.eqv p q with
    | false => rfl
    | true =>
      have := cmp_eqv p q (hc p q e1 g1) q1
      subst this
      exact absurd (hi p e1 g1) h
theorem eq_vd {s : Sto} {k : Kd} {a b : D} (hk : dep k ≤ 4) (ha : VD k a) (hb : VD k b) : eqR s (.d a) (.d b) = some (decide (a = b)) := by
  refine eq_pd (n := 60) (by decide) ((vd_pd k a ha).mono (by omega)) ((vd_pd k b hb).mono (by omega)) (vd_cm k a b ha hb) fun p h1 h2 => ?_
  obtain ⟨p', e1, e2, _⟩ := vd_pd k a ha
  rw [h1] at e1
  cases e1
  exact pure_inj a b p h1 h2 e2
theorem eq_samePd {s : Sto} {n : Nat} {a : D} (hn : n ≤ 64) (ha : Pd n a) : eqR s (.d a) (.d a) = some true := by
  obtain ⟨p, e1, e2, e3⟩ := ha
  have h1 : pyR s (.d a) = some p := pn_any e1
  unfold eqR
  rw [h1]
  simp only
  rw [if_pos ⟨shaped_pd e2 (by omega), shaped_pd e2 (by omega)⟩, SeqAt.eqv_refl p (pure_lay p e2)]
theorem rows_pd {k : Kd} {L : Rw} (hk : dep k ≤ 4) (h : ∀ r ∈ L, VD k r.1) : Pd 20 (.tup (L.map rowV)) := (vd_pd (.bag k) _ ⟨L, rfl, h⟩).mono (by show 2 * (dep k + 1) ≤ 20; omega)
theorem row_pd {k : Kd} {r : D × Int} (hk : dep k ≤ 4) (h : VD k r.1) : Pd 10 (rowV r) := (Pd.row (vd_pd k r.1 h)).mono (by omega)
/-- a list of the store against [] -/
theorem eq_nil {s : Sto} {i : Nat} {k : Kd} {L : Rw} (hk : dep k ≤ 4) (hs : s[i]? = some (.lst (L.map rowV))) (h : ∀ r ∈ L, VD k r.1) : eqR s (.d (.obj i)) (.l []) = some L.isEmpty := by
  obtain ⟨ps, e1, e2, e3, e4⟩ := Pds.of (n := 10) (ds := L.map rowV) fun d hd => by
    obtain ⟨r, hr, rfl⟩ := List.mem_map.mp hd
    exact row_pd hk (h r hr)
  have hm : (L.map rowV).mapM (pyN s 2) = some ps := by
    have : ∀ {ds : List D} {ps : List PyData}, pws0 ds = some ps → ds.mapM (pyN s 2) = some ps := by
      intro ds
      induction ds with
      | nil => intro ps h; cases h; rfl
      | cons d ds ih =>
        intro ps h
        obtain ⟨q, qs, rfl, h1, h2⟩ := pws_inv h
        rw [List.mapM_cons, pn_any h1, ih h2]; rfl
    exact this e1
  have h1 : pyR s (.d (.obj i)) = some (.list ps) := by
    show (match s[i]? with | some (.lst xs) => (xs.mapM (pyN s 2)).map PyData.list | _ => none) = _
    rw [hs]
    show ((L.map rowV).mapM (pyN s 2)).map PyData.list = _
    rw [hm]; rfl
  have h2 : pyR s (.l []) = some (.list []) := rfl
  unfold eqR
  rw [h1, h2]
  simp only
  have hsh : SeqAt.shaped (.list ps) = true := by
    unfold SeqAt.shaped
    have l : PyData.canLay0 (.list ps) = true := by
      have := pures_lay ps e2
      simpa [PyData.canLay0] using this
    have dd : PyData.depth (.list ps) ≤ 64 := by show PyData.depthAll ps + 1 ≤ 64; omega
    rw [l, decide_eq_true dd]; rfl
  rw [if_pos ⟨hsh, by decide +kernel⟩]
  congr 1
  cases L with
  | nil => cases e1; simp [PyData.eqv, PyData.eqvAll]
  | cons r L =>
    cases ps with
    | nil => simp at e4
    | cons p ps => simp [PyData.eqv, PyData.eqvAll]
end Nv

set_option Elab.async false
set_option maxRecDepth 100000
set_option autoImplicit false
set_option linter.all false
set_option maxHeartbeats 4000000
/-! V1f: _law_listed, _law_summed, _law_is -/
namespace Nv.V1
open PySem PySem.Spec PyProof.Rows L2 Classical
variable {T : Tab} {c g : Str → Nat}
structure EL (T : Tab) (c g : Str → Nat) extends EV T c g : Prop where
  listed : T.fns[c "_law_listed"]? = some (f_listed c g)
  summed : T.fns[c "_law_summed"]? = some (f_summed c g)
  is_ : T.fns[c "_law_is"]? = some (f_is c g)
theorem t_is (E : EL T c g) {m : Nat} {s : Sto} {k : Kd} {L : Rw} (hm : 1 ≤ m) (hs : Clo s) (hk : dep k ≤ 4) (hL : ∀ r ∈ L, VD k r.1) : callN T m (c "_law_is") [.tup (L.map rowV), .tup (L.map rowV)] s = .ok (.d (.bl true)) s := by
  obtain ⟨n, rfl⟩ : ∃ n, m = n + 1 := ⟨m - 1, by omega⟩
  have e1 := eq_samePd (s := s) (by decide) (rows_pd hk hL)
  have hf : Nv.fin s.length (.d (.bl true)) s = .ok (.d (.bl true)) s := fin_pure hs rfl
  obtain ⟨l2, s3, ⟨o, rfl, rfl, _⟩, ef⟩ := for_go (β := RD) (cf := callN T n) (g := T.gc) (tg := .v 2) (src := none) (u := .cons (.ifs (.or (.nt (.isin (.var 2) .tuple)) (.or (.nt (.isin (.ix (.var 2) (.int 1)) .int)) (.isin (.ix (.var 2) (.int 1)) .bool))) (.cons (.ret (.bl false)) .nil) .nil) .nil)
    (I := fun ds l s' => ∃ o : Option D, l = [some (.tup (L.map rowV)), some (.tup (L.map rowV)), o] ∧ s' = s ∧ ∀ d ∈ ds, ∃ r : D × Int, d = rowV r) (ds := L.map rowV) (l := [some (.tup (L.map rowV)), some (.tup (L.map rowV)), none]) (s := s)
    ⟨none, rfl, rfl, fun d hd => by obtain ⟨r, _, rfl⟩ := List.mem_map.mp hd; exact ⟨r, rfl⟩⟩ (fun _ _ _ _ => trivial) (fun x ds l s4 ⟨o, hl, hs4, hd⟩ => by
      subst hl hs4
      obtain ⟨⟨rv, rn⟩, rfl⟩ := hd x (.head _)
      refine ⟨[some (.tup (L.map rowV)), some (.tup (L.map rowV)), some (.tup [rv, .int rn])], s4, ⟨_, rfl, rfl, fun d hd' => hd d (.tail _ hd')⟩, fun F => ?_⟩
      show btK (bindT _ (.tup [rv, .int rn]) _) _ = _
      generalize L.map rowV = X at *
      simp -implicitDefEqProofs)
  rw [call_at E.is_ rfl]
  generalize L.map rowV = X at *
  simp -implicitDefEqProofs [f_is, b_is, e1, ef, hf]
theorem ints_map : ∀ A : List Int, intsOf (A.map D.int) = some A
  | [] => rfl
  | a :: A => by
    show (intsOf (A.map D.int)).map (a :: ·) = _
    rw [ints_map A]; rfl
/-- the rows done -/
structure Sm1 (rs : Rw) (done : List D) (L : Rw) : Prop where
  pw : (L.map (·.1)).Pairwise fun a b => leD a b = true
  nd : (L.map (·.1)).Nodup
  mem : ∀ e, e ∈ L ↔ e.1 ∈ done ∧ e.2 = cnt rs e.1 ∧ e.2 ≠ 0
theorem last_map {α β : Type} {f : α → β} : ∀ {l : List α} {a : α}, l.getLast? = some a → (l.map f).getLast? = some (f a) := fun {l a} h => by rw [List.getLast?_map, h]; rfl
theorem Sm1.step {k : Kd} {rs L : Rw} {done rest : List D} {v : D} (h : Sm1 rs done L) (hv : ∀ d ∈ done ++ v :: rest, VD k d) (pw : (done ++ v :: rest).Pairwise fun a b => leD a b = true) :
    (cnt rs v = 0 → Sm1 rs (done ++ [v]) L) ∧ (cnt rs v ≠ 0 → (∃ e, L.getLast? = some e ∧ e.1 = v) → Sm1 rs (done ++ [v]) L) ∧ (cnt rs v ≠ 0 → (¬ ∃ e, L.getLast? = some e ∧ e.1 = v) → Sm1 rs (done ++ [v]) (L ++ [(v, cnt rs v)])) := by
  have hle : ∀ d ∈ done, leD d v = true := fun d hd => (List.pairwise_append.mp pw).2.2 d hd v (.head _)
  have hvv : VD k v := hv v (by simp)
  refine ⟨fun h0 => ⟨h.pw, h.nd, fun e => ?_⟩, fun h0 ⟨e0, l0, q0⟩ => ⟨h.pw, h.nd, fun e => ?_⟩, fun h0 hno => ?_⟩
  · rw [h.mem, List.mem_append]
    constructor
    · rintro ⟨a, b⟩; exact ⟨.inl a, b⟩
    · rintro ⟨a | a, b1, b2⟩
      · exact ⟨a, b1, b2⟩
      · rw [List.mem_singleton.mp a, h0] at b1; exact absurd b1 b2
  · rw [h.mem, List.mem_append]
    constructor
    · rintro ⟨a, b⟩; exact ⟨.inl a, b⟩
    · rintro ⟨a | a, b⟩
      · exact ⟨a, b⟩
      · have := (h.mem e0).mp (List.mem_of_getLast? l0)
        rw [q0] at this
        rw [List.mem_singleton.mp a] at b ⊢
        exact ⟨this.1, b⟩
  · have hnew : v ∉ L.map (·.1) := fun hm => by
      obtain ⟨e, he, q⟩ := List.mem_map.mp hm
      have hne : L ≠ [] := List.ne_nil_of_mem he
      obtain ⟨pre, z, rfl⟩ : ∃ pre z, L = pre ++ [z] := ⟨L.dropLast, L.getLast hne, (List.dropLast_concat_getLast hne).symm⟩
      refine hno ⟨z, by simp, ?_⟩
      have hz := (h.mem z).mp (by simp)
      have h1 := hle z.1 hz.1
      have h2 : leD v z.1 = true := by
        rcases List.mem_append.mp he with he | he
        · have := h.pw
          rw [List.map_append] at this
          have := (List.pairwise_append.mp this).2.2 e.1 (List.mem_map.mpr ⟨e, he, rfl⟩) z.1 (by simp)
          rw [q] at this; exact this
        · rw [List.mem_singleton.mp he] at q
          rw [q]
          have := leD_tot v v
          rwa [Bool.or_self] at this
      exact leD_anti (hv z.1 (List.mem_append_left _ hz.1)) hvv h1 h2
    refine ⟨?_, ?_, fun e => ?_⟩
    · rw [List.map_append]
      refine List.pairwise_append.mpr ⟨h.pw, List.pairwise_singleton _ _, fun a ha b hb => ?_⟩
      rw [List.map_cons, List.map_nil, List.mem_singleton] at hb
      obtain ⟨e, he, rfl⟩ := List.mem_map.mp ha
      rw [hb]
      exact hle e.1 ((h.mem e).mp he).1
    · rw [List.map_append, List.nodup_append]
      refine ⟨h.nd, by simp, fun a ha b hb => ?_⟩
      rw [List.map_cons, List.map_nil, List.mem_singleton] at hb
      rw [hb]
      rintro rfl
      exact hnew ha
    · rw [List.mem_append, h.mem, List.mem_append]
      constructor
      · rintro (⟨a, b⟩ | a)
        · exact ⟨.inl a, b⟩
        · rw [List.mem_singleton.mp a]; exact ⟨.inr (by simp), rfl, h0⟩
      · rintro ⟨a | a, b1, b2⟩
        · exact .inl ⟨a, b1, b2⟩
        · right
          have ea := List.mem_singleton.mp a
          rw [List.mem_singleton]
          exact Prod.ext ea (by rw [b1, ea])
abbrev smBody : Sm := .cons (.set (.v 3) (.b1 .sum (.cp (.ix (.var 4) (.int 1)) (.v 4) (.var 0) (.cmp .eq (.ix (.var 4) (.int 0)) (.var 2)) [4]))) (.cons (.ifs (.and (.cmp .ne (.var 3) (.int 0)) (.or (.cmp .eq (.var 1) (.lst .nil)) (.cmp .ne (.ix (.ix (.var 1) (.neg (.int 1))) (.int 0)) (.var 2)))) (.cons (.ex (.m1 .append (.var 1) (.tup (.cons (.var 2) (.cons (.var 3) .nil))))) .nil) .nil) .nil)
theorem cp_sum {β : Type} {n : Nat} {s : Sto} {k : Kd} {rs : Rw} {v : D} {o1 o3 : Option D} (hk : dep k ≤ 4) (hv : ∀ r ∈ rs, VD k r.1) (hd : VD k v) (hl : rs.length ≤ 1000) (K : List D → Sto → Res β) :
    cpK (.v 4) none (den (callN T n) T.gc (.cmp .eq (.ix (.var 4) (.int 0)) (.var 2))).b (den (callN T n) T.gc (.ix (.var 4) (.int 1))).v [some (.lf (rs.map rowV)), o1, some v, o3, none] (rs.map rowV) [] s K = K (((rs.filter fun r => decide (r.1 = v)).map (·.2)).map D.int) s := by
  let pp : D → Bool := fun x => match x with
    | .tup [a, _] => decide (a = v)
    | _ => false
  let ff : D → D := fun x => match x with
    | .tup [_, b] => b
    | _ => .non
  rw [cp_if (src := none) (ds := rs.map rowV) (acc := []) (p := pp) (f := ff) trivial (by rw [List.length_nil, List.length_map, sizeLine_eq]; omega) (fun x hx K1 K2 => ?_)]
  · rw [List.nil_append, List.filter_map, List.map_map, List.map_map]
    rfl
  · obtain ⟨⟨rv, rn⟩, hr, rfl⟩ := List.mem_map.mp hx
    have e := eq_vd (s := s) hk (hv _ hr) hd
    have e : eqR s (.d rv) (.d v) = some (decide (rv = v)) := e
    show btK (bindT _ (.tup [rv, .int rn]) _) _ = if decide (rv = v) = true then K1 (.int rn) s else K2 s
    generalize rs.map rowV = R at *
    generalize decide (rv = v) = b at *
    simp -implicitDefEqProofs [e]
theorem sum_loop {n : Nat} {s : Sto} {k : Kd} {rs : Rw} {ks : List D} (hk : dep k ≤ 4) (hv : ∀ r ∈ rs, VD k r.1) (hl : rs.length ≤ 60) : ∀ (rest done : List D) (L : Rw) (o2 o3 : Option D), (∀ d ∈ done ++ rest, VD k d) → (done ++ rest).Pairwise (fun a b => leD a b = true) → Sm1 rs done L → L.length + rest.length ≤ 100 →
    ∃ L' o2' o3', Sm1 rs (done ++ rest) L' ∧ ∀ j : Fl → Loc → Sto → Res RD, forK (.v 2) none (sden (callN T n) T.gc smBody) rest [some (.lf (rs.map rowV)), some (.obj s.length), o2, o3, none] (s ++ [.lst (L.map rowV)]) j = j .nx [some (.lf (rs.map rowV)), some (.obj s.length), o2', o3', none] (s ++ [.lst (L'.map rowV)])
  | [], done, L, o2, o3, hd, pw, h, _ => ⟨L, o2, o3, by rw [List.append_nil]; exact h, fun j => for_nil (src := none) trivial⟩
  | v :: rest, done, L, o2, o3, hd, pw, h, hl2 => by
    have hvv : VD k v := hd v (by simp)
    obtain ⟨st1, st2, st3⟩ := h.step hd pw
    rw [List.length_cons] at hl2
    have hLv : ∀ r ∈ L, VD k r.1 := fun r hr => hd r.1 (List.mem_append_left _ ((h.mem r).mp hr).1)
    have hmid : (s ++ [Ob.lst (L.map rowV)])[s.length]? = some (.lst (L.map rowV)) := mid_at
    have esum : ∀ s1 : Sto, b1R .sum s1 (.l (((rs.filter fun r => decide (r.1 = v)).map (·.2)).map D.int)) = some (.d (.int (cnt rs v))) := fun s1 => by
      show (intsOf (((rs.filter fun r => decide (r.1 = v)).map (·.2)).map D.int)).map _ = _
      rw [ints_map]; rfl
    have ecp := fun (K : List D → Sto → Res RD) => cp_sum (T := T) (β := RD) (n := n) (s := s ++ [Ob.lst (L.map rowV)]) (v := v) (o1 := some (.obj s.length)) (o3 := o3) hk hv hvv (by omega) K
    have ecp : ∀ K : List D → Sto → Res RD, cpK (.v 4) none (den (callN T n) T.gc (.cmp .eq (.ix (.var 4) (.int 0)) (.var 2))).b (den (callN T n) T.gc (.ix (.var 4) (.int 1))).v (wipeL [some (.lf (rs.map rowV)), some (.obj s.length), some v, o3, none] [4]) (rs.map rowV) [] (s ++ [Ob.lst (L.map rowV)]) K = K (((rs.filter fun r => decide (r.1 = v)).map (·.2)).map D.int) (s ++ [Ob.lst (L.map rowV)]) := ecp
    have enil := eq_nil (s := s ++ [Ob.lst (L.map rowV)]) hk hmid hLv
    have eapp := app_ok (s := s ++ [Ob.lst (L.map rowV)]) (d := .tup [v, .int (cnt rs v)]) hmid (by rw [List.length_map, sizeLine_eq]; omega)
    rw [set_mid] at eapp
    have eisl := isl_ok hmid
    -- what one turn does
    have turn : ∃ L1 : Rw, Sm1 rs (done ++ [v]) L1 ∧ L1.length ≤ L.length + 1 ∧ ∀ F : Fl → Loc → Sto → Res RD, btK (bindT (.v 2) v [some (.lf (rs.map rowV)), some (.obj s.length), o2, o3, none]) (fun l1 => sk (callN T n) T.gc smBody l1 (s ++ [.lst (L.map rowV)]) F) = F .nx [some (.lf (rs.map rowV)), some (.obj s.length), some v, some (.int (cnt rs v)), none] (s ++ [.lst (L1.map rowV)]) := by
      by_cases h0 : cnt rs v = 0
      · refine ⟨L, st1 h0, by omega, fun F => ?_⟩
        rw [h0] at esum ⊢
        generalize ((rs.filter fun r => decide (r.1 = v)).map (·.2)).map D.int = IS at *
        generalize rs.map rowV = R at *
        generalize s ++ [Ob.lst (L.map rowV)] = s1 at *
        simp -implicitDefEqProofs [ecp, esum]
      · cases hL : L with
        | nil =>
          subst hL
          refine ⟨[(v, cnt rs v)], by simpa using st3 h0 (by simp), by simp, fun F => ?_⟩
          have enil : eqR (s ++ [Ob.lst []]) (.d (.obj s.length)) (.l []) = some true := enil
          have eapp : m1R .append (.obj s.length) (.d (.tup [v, .int (cnt rs v)])) (s ++ [Ob.lst []]) = .ok (.d .non) (s ++ [Ob.lst [.tup [v, .int (cnt rs v)]]]) := eapp
          have ecp : ∀ K : List D → Sto → Res RD, cpK (.v 4) none (den (callN T n) T.gc (.cmp .eq (.ix (.var 4) (.int 0)) (.var 2))).b (den (callN T n) T.gc (.ix (.var 4) (.int 1))).v (wipeL [some (.lf (rs.map rowV)), some (.obj s.length), some v, o3, none] [4]) (rs.map rowV) [] (s ++ [Ob.lst []]) K = K (((rs.filter fun r => decide (r.1 = v)).map (·.2)).map D.int) (s ++ [Ob.lst []]) := ecp
          have eisl : isLstB (s ++ [Ob.lst []]) (.obj s.length) = true := eisl
          show btK _ (fun l1 => sk (callN T n) T.gc smBody l1 (s ++ [Ob.lst []]) F) = F .nx _ (s ++ [Ob.lst [.tup [v, .int (cnt rs v)]]])
          generalize ((rs.filter fun r => decide (r.1 = v)).map (·.2)).map D.int = IS at *
          generalize rs.map rowV = R at *
          generalize hs1 : s ++ [Ob.lst []] = s1 at *
          generalize cnt rs v = nn at *
          simp -implicitDefEqProofs [ecp, esum, h0, enil, eisl, eapp, -isLst_of]
        | cons a L0 =>
          rw [← hL]
          have hne : L ≠ [] := by rw [hL]; simp
          obtain ⟨pre, z, hz⟩ : ∃ pre z, L = pre ++ [z] := ⟨L.dropLast, L.getLast hne, (List.dropLast_concat_getLast hne).symm⟩
          have enil : eqR (s ++ [Ob.lst (L.map rowV)]) (.d (.obj s.length)) (.l []) = some false := by rw [enil, hL]; rfl
          have hix : ixR (s ++ [Ob.lst (L.map rowV)]) (.d (.obj s.length)) (.d (.int (-1))) = some (.d (rowV z)) := by
            rw [ix_obj, hmid]
            show (atI (L.map rowV) (-1)).map RD.d = _
            rw [hz, List.map_append, List.map_cons, List.map_nil]
            have : atI (pre.map rowV ++ [rowV z]) (-1) = some (rowV z) := by
              unfold atI ixN
              rw [if_neg (by decide), if_pos (by rw [List.length_append, List.length_singleton]; omega)]
              show (pre.map rowV ++ [rowV z])[_]? = _
              rw [show ((-1 : Int) + ((pre.map rowV ++ [rowV z]).length : Nat)).toNat = (pre.map rowV).length by rw [List.length_append, List.length_singleton]; omega, List.getElem?_append_right (Nat.le_refl _), Nat.sub_self]
              rfl
            rw [this]; rfl
          have hzv : VD k z.1 := hLv z (by rw [hz]; simp)
          have eqz := eq_vd (s := s ++ [Ob.lst (L.map rowV)]) hk hzv hvv
          have hlast : L.getLast? = some z := by rw [hz]; simp
          obtain ⟨zv, zn⟩ := z
          have hix : ixR (s ++ [Ob.lst (L.map rowV)]) (.d (.obj s.length)) (.d (.int (-1))) = some (.d (.tup [zv, .int zn])) := hix
          have eqz : eqR (s ++ [Ob.lst (L.map rowV)]) (.d zv) (.d v) = some (decide (zv = v)) := eqz
          by_cases hq : zv = v
          · refine ⟨L, st2 h0 ⟨_, hlast, hq⟩, by omega, fun F => ?_⟩
            rw [decide_eq_true hq] at eqz
            generalize ((rs.filter fun r => decide (r.1 = v)).map (·.2)).map D.int = IS at *
            generalize rs.map rowV = R at *
            generalize hs1 : s ++ [Ob.lst (L.map rowV)] = s1 at *
            generalize cnt rs v = nn at *
            simp -implicitDefEqProofs [ecp, esum, h0, enil, hix, eqz, -ix_obj]
          · refine ⟨L ++ [(v, cnt rs v)], st3 h0 (fun ⟨e, e1, e2⟩ => by rw [hlast] at e1; cases e1; exact hq e2), by simp, fun F => ?_⟩
            rw [decide_eq_false hq] at eqz
            have hm : (L ++ [(v, cnt rs v)]).map rowV = L.map rowV ++ [.tup [v, .int (cnt rs v)]] := by rw [List.map_append]; rfl
            rw [hm]
            generalize ((rs.filter fun r => decide (r.1 = v)).map (·.2)).map D.int = IS at *
            generalize rs.map rowV = R at *
            generalize hs1 : s ++ [Ob.lst (L.map rowV)] = s1 at *
            generalize cnt rs v = nn at *
            simp -implicitDefEqProofs [ecp, esum, h0, enil, hix, eqz, eisl, eapp, -ix_obj, -isLst_of]
    obtain ⟨L1, h1, hl3, et⟩ := turn
    obtain ⟨L', o2', o3', hs', er⟩ := sum_loop (ks := ks) (n := n) hk hv hl rest (done ++ [v]) L1 (some v) (some (.int (cnt rs v))) (by rw [List.append_assoc]; exact hd) (by rw [List.append_assoc]; exact pw) h1 (by omega)
    refine ⟨L', o2', o3', by rw [List.append_assoc] at hs'; exact hs', fun j => ?_⟩
    rw [for_cons (src := none) trivial, et]
    exact er j
theorem t_summed (E : EL T c g) {m : Nat} {s : Sto} {k : Kd} {rs : Rw} (hm : 1 ≤ m) (hs : Clo s) (hk : dep k ≤ 4) (hv : ∀ r ∈ rs, VD k r.1) (hl : rs.length ≤ 60) :
    ∃ L, IsG rs L ∧ callN T m (c "_law_summed") [.lf (rs.map rowV)] s = .ok (.d (.tup (L.map rowV))) s := by
  obtain ⟨n, rfl⟩ : ∃ n, m = n + 1 := ⟨m - 1, by omega⟩
  have hv1 : ∀ d ∈ rs.map (·.1), VD k d := fun d hd => by
    obtain ⟨r, hr, rfl⟩ := List.mem_map.mp hd
    exact hv r hr
  have hperm := List.mergeSort_perm (rs.map (·.1)) leD
  obtain ⟨L, o2, o3, h1, e1⟩ := sum_loop (T := T) (ks := []) (n := n) (s := s) hk hv hl ((rs.map (·.1)).mergeSort leD) [] [] none none (fun d hd => hv1 d (hperm.mem_iff.mp (by simpa using hd))) (by rw [List.nil_append]; exact List.pairwise_mergeSort (fun a b c => leD_tr a b c) (fun a b => leD_tot a b) _) ⟨.nil, List.nodup_nil, fun e => ⟨fun h => (by cases h), fun h => (by cases h.1)⟩⟩ (by rw [hperm.length_eq, List.length_map]; simp; omega)
  rw [List.nil_append] at h1
  have hG : IsG rs L := ⟨h1.pw, h1.nd, fun e => by
    rw [h1.mem]
    constructor
    · rintro ⟨_, b⟩; exact b
    · rintro ⟨b1, b2⟩
      obtain ⟨r, hr, q⟩ := mem_of_cnt (b1 ▸ b2)
      exact ⟨hperm.mem_iff.mpr (List.mem_map.mpr ⟨r, hr, q⟩), b1, b2⟩⟩
  have hLv := hG.vd hv
  have es := sorted_l (s := s ++ [Ob.lst []]) hk hv1 (by rw [List.length_map]; omega)
  have hcp : ∀ K : List D → Sto → Res RD, cpK (.v 4) none (den (callN T n) T.gc .nil).b (den (callN T n) T.gc (.ix (.var 4) (.int 0))).v (wipeL [some (.lf (rs.map rowV)), some (.obj s.length), none, none, none] [4]) (rs.map rowV) [] (s ++ [Ob.lst []]) K = K (rs.map (·.1)) (s ++ [Ob.lst []]) := fun K => by
    show cpK _ _ _ _ [some (.lf (rs.map rowV)), some (.obj s.length), none, none, none] _ _ _ _ = _
    rw [cp_all (src := none) trivial (by rw [List.length_nil, List.length_map, sizeLine_eq]; omega) (all2_maps fun r hr K1 K2 => ?_) K, List.nil_append]
    obtain ⟨rv, rn⟩ := r
    generalize rs.map rowV = R at *
    show btK (bindT _ (.tup [rv, .int rn]) _) _ = K1 rv _
    simp -implicitDefEqProofs
  have htup : b1R .tuple (s ++ [Ob.lst (L.map rowV)]) (.d (.obj s.length)) = some (.d (.tup (L.map rowV))) := tuple_obj mid_at
  have hfin : Nv.fin s.length (.d (.tup (L.map rowV))) (s ++ [Ob.lst (L.map rowV)]) = .ok (.d (.tup (L.map rowV))) s := fin_g hs (rows_lt hLv)
  have e1 : ∀ j : Fl → Loc → Sto → Res RD, forK (.v 2) none (sden (callN T n) T.gc smBody) ((rs.map (·.1)).mergeSort leD) [some (.lf (rs.map rowV)), some (.obj s.length), none, none, none] (s ++ [.lst []]) j = j .nx [some (.lf (rs.map rowV)), some (.obj s.length), o2, o3, none] (s ++ [.lst (L.map rowV)]) := e1
  refine ⟨L, hG, ?_⟩
  rw [call_at E.summed rfl]
  generalize (rs.map (·.1)).mergeSort leD = ks at *
  generalize rs.map (·.1) = k1 at *
  generalize rs.map rowV = R at *
  generalize L.map rowV = L' at *
  simp -implicitDefEqProofs [f_summed, b_summed, hcp, es, e1, htup, hfin]
end Nv.V1

set_option Elab.async false
set_option maxRecDepth 100000
set_option autoImplicit false
set_option linter.all false
set_option maxHeartbeats 4000000
/-! V1g: _law_listed -/
namespace Nv.V1
open PySem PySem.Spec PyProof.Rows L2
variable {T : Tab} {c g : Str → Nat}
theorem tk (E : EV T c g) {n p : Nat} {s : Sto} {o : Ob} {k : Int} (hn : 1 ≤ n) (hp : PotAt 2 p s) (ho : ∀ i, o.lt i = true) (h1 : 0 < k) (h2 : k < 2 ^ 250) : ∃ d s', 0 ≤ d ∧ d < k ∧ Pc 2 p s s' ∧ callN T n (c "_law_take") [.obj p, .int k] (s ++ [o]) = .ok (.d (.int d)) (s' ++ [o]) := by
  obtain ⟨d, s', d1, d2, p1, e1⟩ := t_take E hn (hp.push (ho _)) h1 h2
  obtain ⟨s2, rfl, p2⟩ := p1.app hp.lt
  exact ⟨d, s2, d1, d2, p2, e1⟩
theorem vk {k : Kd} (hv : VlP T c k (VD k)) {n p : Nat} {s : Sto} {o : Ob} (hn : 2 * dep k + 4 ≤ n) (hp : PotAt 2 p s) (ho : ∀ i, o.lt i = true) : ∃ v s', VD k v ∧ Pc 2 p s s' ∧ callN T n (c "_law_value") [.obj p, kD k] (s ++ [o]) = .ok (.d v) (s' ++ [o]) := by
  obtain ⟨v, s', v1, _, p1, e1⟩ := hv hn (hp.push (ho _))
  obtain ⟨s2, rfl, p2⟩ := p1.app hp.lt
  exact ⟨v, s2, v1, p2, e1⟩
abbrev lsBody (c : Str → Nat) : Sm := .cons (.set (.v 4) (.bin .sub (.call (c "_law_take") (.cons (.var 0) (.cons (.int 7) .nil))) (.int 3))) (.cons (.ifs (.cmp .eq (.call (c "_law_take") (.cons (.var 0) (.cons (.int 5) .nil))) (.int 4)) (.cons (.set (.v 4) (.bin .add (.bin .sub (.call (c "_law_take") (.cons (.var 0) (.cons (.bin .sub (.bin .mul (.int 2) (.bin .pow (.int 10) (.int 57))) (.int 1)) .nil))) (.bin .pow (.int 10) (.int 57))) (.int 1))) .nil) .nil) (.cons (.ex (.m1 .append (.var 2) (.tup (.cons (.frz (.call (c "_law_value") (.cons (.var 0) (.cons (.var 1) .nil)))) (.cons (.var 4) .nil))))) (.cons (.ifs (.cmp .eq (.call (c "_law_take") (.cons (.var 0) (.cons (.int 2) .nil))) (.int 1)) (.cons (.ex (.m1 .append (.var 2) (.tup (.cons (.ix (.ix (.var 2) (.call (c "_law_take") (.cons (.var 0) (.cons (.b1 .len (.var 2)) .nil)))) (.int 0)) (.cons (.bin .sub (.call (c "_law_take") (.cons (.var 0) (.cons (.int 7) .nil))) (.int 3)) .nil))))) .nil) .nil) .nil)))
/-- counts that are not too large -/
def Cb (b : Nat) (n : Int) : Prop := n.natAbs ≤ 10 ^ b
theorem ls_turn (E : EV T c g) {n p : Nat} {s4 : Sto} {k : Kd} {rs : Rw} {q : Nat} {x : D} {o3 o4 : Option D} (hv : VlP T c k (VD k)) (hn : 2 * dep k + 4 ≤ n) (hp : PotAt 2 p s4) (hq : s4.length = q) (hr : ∀ r ∈ rs, VD k r.1 ∧ Cb 57 r.2) (hl : rs.length ≤ 100) :
    ∃ (rs' : Rw) (s' : Sto) (o4' : Option D), Pc 2 p s4 s' ∧ (∀ r ∈ rs', VD k r.1 ∧ Cb 57 r.2) ∧ rs'.length ≤ rs.length + 2 ∧ ∀ F : Fl → Loc → Sto → Res RD, btK (bindT (.v 3) x [some (.obj p), some (kD k), some (.obj q), o3, o4]) (fun l1 => sk (callN T n) T.gc (lsBody c) l1 (s4 ++ [.lst (rs.map rowV)]) F) = F .nx [some (.obj p), some (kD k), some (.obj q), some x, o4'] (s' ++ [.lst (rs'.map rowV)]) := by
  have olt : ∀ {rs : Rw}, (∀ r ∈ rs, VD k r.1 ∧ Cb 57 r.2) → ∀ i, (Ob.lst (rs.map rowV)).lt i = true := fun h i => rows_lt fun r hr => (h r hr).1
  obtain ⟨a, s5, a1, a2, p5, e5⟩ := tk E (n := n) (k := 7) (by omega) hp (olt hr) (by decide) (by decide)
  have hp5 := p5.at_ hp
  obtain ⟨b, s6, b1, b2, p6, e6⟩ := tk E (n := n) (k := 5) (by omega) hp5 (olt hr) (by decide) (by decide)
  have hp6 := p6.at_ hp5
  have hpw : ∀ s, binR .pow s (.d (.int 10)) (.d (.int 57)) = some (.d (.int 1000000000000000000000000000000000000000000000000000000000)) := fun s => by
    rw [bin_pow ⟨by decide, by decide, by decide⟩]; rfl
  have hmu : ∀ s, binR .mul s (.d (.int 2)) (.d (.int 1000000000000000000000000000000000000000000000000000000000)) = some (.d (.int 2000000000000000000000000000000000000000000000000000000000)) := fun s => bin_mul (.inl ⟨by decide, by decide⟩)
  have hsu : (2000000000000000000000000000000000000000000000000000000000 : Int) - 1 = 1999999999999999999999999999999999999999999999999999999999 := by decide
  obtain ⟨of, s7, hof, p7, hc1⟩ : ∃ (of : Int) (s7 : Sto), Cb 57 of ∧ Pc 2 p s6 s7 ∧ ((b = 4 ∧ ∃ d, of = d - 1000000000000000000000000000000000000000000000000000000000 + 1 ∧ callN T n (c "_law_take") [.obj p, .int 1999999999999999999999999999999999999999999999999999999999] (s6 ++ [.lst (rs.map rowV)]) = .ok (.d (.int d)) (s7 ++ [.lst (rs.map rowV)])) ∨ (b ≠ 4 ∧ of = a - 3 ∧ s7 = s6)) := by
    by_cases hb : b = 4
    · obtain ⟨d, s7, d1, d2, p7, e7⟩ := tk E (n := n) (k := 1999999999999999999999999999999999999999999999999999999999) (by omega) hp6 (olt hr) (by decide) (by decide)
      exact ⟨_, s7, by unfold Cb; omega, p7, .inl ⟨hb, d, rfl, e7⟩⟩
    · exact ⟨_, s6, by unfold Cb; omega, hp6.refl, .inr ⟨hb, rfl, rfl⟩⟩
  have hp7 := p7.at_ hp6
  have hl7 : s7.length = q := by rw [p7.len, p6.len, p5.len, hq]
  obtain ⟨v, s8, v1, p8, e8⟩ := vk hv hn hp7 (olt hr)
  have hp8 := p8.at_ hp7
  have hl8 : s8.length = q := by rw [p8.len, hl7]
  have hr1 : ∀ r ∈ rs ++ [(v, of)], VD k r.1 ∧ Cb 57 r.2 := fun r h => by
    rcases List.mem_append.mp h with h | h
    · exact hr r h
    · rw [List.mem_singleton.mp h]; exact ⟨v1, hof⟩
  have isl7 := isl_ok (s := s7 ++ [Ob.lst (rs.map rowV)]) (i := s7.length) mid_at
  rw [hl7] at isl7
  have app8 := app_ok (s := s8 ++ [Ob.lst (rs.map rowV)]) (i := s8.length) (d := .tup [v, .int of]) mid_at (by rw [List.length_map, sizeLine_eq]; omega)
  rw [set_mid, hl8, show rs.map rowV ++ [D.tup [v, .int of]] = (rs ++ [(v, of)]).map rowV by rw [List.map_append]; rfl] at app8
  obtain ⟨e, s9, ea1, ea2, p9, e9⟩ := tk E (n := n) (k := 2) (by omega) hp8 (olt hr1) (by decide) (by decide)
  have hp9 := p9.at_ hp8
  have hl9 : s9.length = q := by rw [p9.len, hl8]
  generalize hrs1 : rs ++ [(v, of)] = rs1 at *
  have hl1 : rs1.length = rs.length + 1 := by rw [← hrs1]; simp
  have isl9 := isl_ok (s := s9 ++ [Ob.lst (rs1.map rowV)]) (i := s9.length) mid_at
  rw [hl9] at isl9
  have len9 := len_lst (s := s9 ++ [Ob.lst (rs1.map rowV)]) (k := s9.length) mid_at
  rw [hl9, List.length_map] at len9
  obtain ⟨rs2, s12, p12, h12, hl12, hc2⟩ : ∃ (rs2 : Rw) (s12 : Sto), Pc 2 p s9 s12 ∧ (∀ r ∈ rs2, VD k r.1 ∧ Cb 57 r.2) ∧ rs2.length ≤ rs.length + 2 ∧ ((e = 1 ∧ ∃ (f : Int) (rv : D) (rn h : Int) (s11 : Sto), callN T n (c "_law_take") [.obj p, .int rs1.length] (s9 ++ [.lst (rs1.map rowV)]) = .ok (.d (.int f)) (s11 ++ [.lst (rs1.map rowV)]) ∧ ixR (s11 ++ [.lst (rs1.map rowV)]) (.d (.obj q)) (.d (.int f)) = some (.d (.tup [rv, .int rn])) ∧
      callN T n (c "_law_take") [.obj p, .int 7] (s11 ++ [.lst (rs1.map rowV)]) = .ok (.d (.int h)) (s12 ++ [.lst (rs1.map rowV)]) ∧ m1R .append (.obj q) (.d (.tup [rv, .int (h - 3)])) (s12 ++ [.lst (rs1.map rowV)]) = .ok (.d .non) (s12 ++ [.lst (rs2.map rowV)])) ∨ (e ≠ 1 ∧ rs2 = rs1 ∧ s12 = s9)) := by
    by_cases he : e = 1
    · obtain ⟨f, s11, f1, f2, p11, e11⟩ := tk E (n := n) (k := rs1.length) (by omega) hp9 (olt hr1) (by omega) (by omega)
      have hp11 := p11.at_ hp9
      have hl11 : s11.length = q := by rw [p11.len, hl9]
      obtain ⟨h, s12, h1, h2, p12, e12⟩ := tk E (n := n) (k := 7) (by omega) hp11 (olt hr1) (by decide) (by decide)
      have hl12 : s12.length = q := by rw [p12.len, hl11]
      obtain ⟨fi, rfl⟩ := Int.eq_ofNat_of_zero_le f1
      have hfi : fi < rs1.length := by omega
      have hix : ixR (s11 ++ [.lst (rs1.map rowV)]) (.d (.obj q)) (.d (.int fi)) = some (.d (.tup [rs1[fi].1, .int rs1[fi].2])) := by
        have hm : (s11 ++ [Ob.lst (rs1.map rowV)])[q]? = some (.lst (rs1.map rowV)) := by rw [← hl11]; exact mid_at
        rw [ix_obj, hm]
        show (atI (rs1.map rowV) fi).map RD.d = _
        rw [atI_map, atI_nat (List.getElem?_eq_getElem hfi)]; rfl
      have app := app_ok (s := s12 ++ [Ob.lst (rs1.map rowV)]) (i := s12.length) (d := .tup [rs1[fi].1, .int (h - 3)]) mid_at (by rw [List.length_map, sizeLine_eq]; omega)
      rw [set_mid, hl12, show rs1.map rowV ++ [D.tup [rs1[fi].1, .int (h - 3)]] = (rs1 ++ [(rs1[fi].1, h - 3)]).map rowV by rw [List.map_append]; rfl] at app
      refine ⟨rs1 ++ [(rs1[fi].1, h - 3)], s12, p11.trans p12, fun r hm => ?_, by rw [List.length_append, hl1]; simp, .inl ⟨he, fi, _, _, h, s11, e11, hix, e12, app⟩⟩
      rcases List.mem_append.mp hm with hm | hm
      · exact hr1 r hm
      · rw [List.mem_singleton.mp hm]
        exact ⟨(hr1 _ (List.getElem_mem hfi)).1, by unfold Cb; omega⟩
    · exact ⟨rs1, s9, hp9.refl, hr1, by omega, .inr ⟨he, rfl, rfl⟩⟩
  refine ⟨rs2, s12, some (.int of), ((((p5.trans p6).trans p7).trans p8).trans p9).trans p12, h12, hl12, fun F => ?_⟩
  have hR : e ≠ 1 → rs2.map rowV = rs1.map rowV := fun he => by
    rcases hc2 with h | h
    · exact absurd h.1 he
    · rw [h.2.1]
  generalize kD k = kd at *
  generalize rs.map rowV = R at *
  generalize rs1.map rowV = R1 at *
  generalize rs2.map rowV = R2 at *
  clear hrs1 hr1 h12 hl12 olt
  rcases hc1 with ⟨hb, d, hof2, e7⟩ | ⟨hb, hof2, hs7⟩
  · rcases hc2 with ⟨he, f, rv, rn, h, s11, g1, g2, g3, g4⟩ | ⟨he, hrr, hss⟩
    · subst hof2
      simp -implicitDefEqProofs [callK_of e5, callK_of e6, hb, hpw, hmu, hsu, callK_of e7, isl7, callK_of e8, app8, callK_of e9, he, isl9, len9, callK_of g1, g2, callK_of g3, g4, -ix_obj, -isLst_of]
    · subst hof2 hss
      simp -implicitDefEqProofs [callK_of e5, callK_of e6, hb, hpw, hmu, hsu, callK_of e7, isl7, callK_of e8, app8, callK_of e9, he, hR he, -ix_obj, -isLst_of]
  · rcases hc2 with ⟨he, f, rv, rn, h, s11, g1, g2, g3, g4⟩ | ⟨he, hrr, hss⟩
    · subst hof2 hs7
      simp -implicitDefEqProofs [callK_of e5, callK_of e6, hb, isl7, callK_of e8, app8, callK_of e9, he, isl9, len9, callK_of g1, g2, callK_of g3, g4, -ix_obj, -isLst_of]
    · subst hof2 hs7 hss
      simp -implicitDefEqProofs [callK_of e5, callK_of e6, hb, isl7, callK_of e8, app8, callK_of e9, he, hR he, -ix_obj, -isLst_of]
theorem t_listed (E : EL T c g) {m p : Nat} {s : Sto} {k : Kd} (hk : okV k) (hd : dep k ≤ 4) (hm : 2 * dep k + 5 ≤ m) (hp : PotAt 2 p s) :
    ∃ (rs : Rw) (s' : Sto), (∀ r ∈ rs, VD k r.1 ∧ Cb 57 r.2) ∧ rs.length ≤ 14 ∧ Pc 2 p s s' ∧ callN T m (c "_law_listed") [.obj p, kD k] s = .ok (.l (rs.map rowV)) s' := by
  obtain ⟨n, rfl⟩ : ∃ n, m = n + 1 := ⟨m - 1, by omega⟩
  have hv : VlP T c k (VD k) := t_value E.toEV k hk (okV_fit k hk) hd
  obtain ⟨w, s1, w1, w2, p1, e1⟩ := tk E.toEV (n := n) (o := .lst []) (k := 7) (by omega) hp (fun _ => rfl) (by decide) (by decide)
  have hp1 := p1.at_ hp
  have hls : s1.length = s.length := p1.len
  have hr := range_ok (s := s1 ++ [.lst []]) (j := w) (small_of (by omega) (by omega))
  have hlen : (upTo 0 w.toNat).length ≤ 7 := by rw [up_len]; omega
  generalize upTo 0 w.toNat = U at *
  obtain ⟨l2, s3, ⟨rs, o3, o4, s4, rfl, rfl, h1, h2, p4⟩, ef⟩ := for_go (β := RD) (cf := callN T n) (g := T.gc) (tg := .v 3) (src := none) (u := lsBody c)
    (I := fun ds l s' => ∃ (rs : Rw) (o3 o4 : Option D) (s4 : Sto), l = [some (.obj p), some (kD k), some (.obj s.length), o3, o4] ∧ s' = s4 ++ [.lst (rs.map rowV)] ∧ (∀ r ∈ rs, VD k r.1 ∧ Cb 57 r.2) ∧ rs.length + 2 * ds.length ≤ 14 ∧ Pc 2 p s1 s4)
    (ds := U) (l := [some (.obj p), some (kD k), some (.obj s.length), none, none]) (s := s1 ++ [.lst []])
    ⟨[], none, none, s1, rfl, rfl, fun e he => (by cases he), by simp; omega, hp1.refl⟩ (fun _ _ _ _ => trivial) (fun x ds l s5 ⟨rs, o3, o4, s4, hl', hs5, h1, h2, p4⟩ => by
      subst hl' hs5
      rw [List.length_cons] at h2
      obtain ⟨rs', s', o4', p5, h3, h4, et⟩ := ls_turn E.toEV (x := x) (o3 := o3) (o4 := o4) (rs := rs) (n := n) hv (by omega) (p4.at_ hp1) (q := s.length) (by rw [p4.len, hls]) h1 (by omega)
      exact ⟨_, _, ⟨rs', some x, o4', s', rfl, rfl, h3, by omega, p4.trans p5⟩, et⟩)
  have hl4 : s4.length = s.length := by rw [p4.len, hls]
  have hfin : Nv.fin s.length (.d (.obj s.length)) (s4 ++ [.lst (rs.map rowV)]) = .ok (.l (rs.map rowV)) s4 := by
    rw [← hl4]
    exact fin_new (p4.at_ hp1).clo (Nat.le_refl _) mid_at (rows_lt fun r hr => (h1 r hr).1)
  refine ⟨rs, s4, h1, by simp only [List.length_nil] at h2; omega, p1.trans p4, ?_⟩
  rw [call_at E.listed rfl]
  generalize kD k = kd at *
  generalize rs.map rowV = R at *
  simp -implicitDefEqProofs [f_listed, b_listed, callK_of e1, hr, ef, hfin]
end Nv.V1

set_option Elab.async false
set_option linter.all false
set_option maxRecDepth 100000
set_option autoImplicit false
/-! K13: the text as terms -/
namespace Nv.K13
open PySem PySem.Spec PyProof.Rows L2
def top (i : Nat) : Stmt := PySem.Challenge.pw_nestviews_k13_papers.main.body.getD i (.Pass ⟨0, 0, 0, 0⟩)
def b_right (c g : Str → Nat) : Sm := (.cons (.set (.v 3) (.frz (.call (c "_law_summed") (.cons (.var 1) .nil)))) (.cons (.set (.v 4) (.b1 .list
    (.var 1))) (.cons (.set (.v 5) (.frz (.call (c "gathered") (.cons (.var 4) .nil)))) (.cons (.ifs (.or (.nt
    (.call (c "_law_is") (.cons (.var 5) (.cons (.var 3) .nil)))) (.cmp .ne (.var 4) (.var 1))) (.cons (.ret (.bl
    false)) .nil) .nil) (.cons (.ex (.m0 .clear (.var 4))) (.cons (.set (.v 6) (.frz (.call (c "gathered") (.cons
    (.var 2) .nil)))) (.cons (.set (.v 7) (.frz (.call (c "_law_summed") (.cons (.frz (.bin .add (.var 1) (.var
    2))) .nil)))) (.cons (.ifs (.or (.nt (.call (c "_law_is") (.cons (.frz (.call (c "added") (.cons (.var 5)
    (.cons (.var 6) .nil)))) (.cons (.var 7) .nil)))) (.nt (.call (c "_law_is") (.cons (.frz (.call (c "added")
    (.cons (.var 6) (.cons (.var 5) .nil)))) (.cons (.var 7) .nil))))) (.cons (.ret (.bl false)) .nil) .nil)
    (.cons (.set (.v 8) (.frz (.call (c "_law_take") (.cons (.var 0) (.cons (.bin .add (.b1 .len (.var 1)) (.int
    1)) .nil))))) (.cons (.ifs (.nt (.call (c "_law_is") (.cons (.frz (.call (c "gathered") (.cons (.frz (.bin
    .add (.rev (.sl (.var 1) (.var 8) .nil)) (.sl (.var 1) .nil (.var 8)))) .nil))) (.cons (.var 3) .nil))))
    (.cons (.ret (.bl false)) .nil) .nil) (.cons (.set (.v 9) (.ix (.lst (.cons (.int 0) (.cons (.int 1) (.cons
    (.neg (.int 1)) (.cons (.bin .add (.bin .sub (.call (c "_law_take") (.cons (.var 0) (.cons (.bin .sub (.bin
    .mul (.int 2) (.bin .pow (.int 10) (.int 60))) (.int 1)) .nil))) (.bin .pow (.int 10) (.int 60))) (.int 1))
    .nil))))) (.call (c "_law_take") (.cons (.var 0) (.cons (.int 4) .nil))))) (.cons (.ifs (.nt (.call (c
    "_law_is") (.cons (.frz (.call (c "taken") (.cons (.var 5) (.cons (.var 9) .nil)))) (.cons (.frz (.call (c
    "_law_summed") (.cons (.frz (.cp (.tup (.cons (.var 12) (.cons (.bin .mul (.var 9) (.var 13)) .nil))) (.c (.v
    12) (.c (.v 13) .n)) (.var 1) .nil [12, 13])) .nil))) .nil)))) (.cons (.ret (.bl false)) .nil) .nil) (.cons
    (.ifs (.nt (.call (c "_law_is") (.cons (.frz (.call (c "opposite") (.cons (.var 5) .nil))) (.cons (.frz (.call
    (c "_law_summed") (.cons (.frz (.cp (.tup (.cons (.var 12) (.cons (.neg (.var 13)) .nil))) (.c (.v 12) (.c (.v
    13) .n)) (.var 1) .nil [12, 13])) .nil))) .nil)))) (.cons (.ret (.bl false)) .nil) .nil) (.cons (.set (.v 10)
    (.frz (.lst (.cons (.frz (.call (c "is_bag") (.cons (.var 5) .nil))) (.cons (.frz (.call (c "is_bag") (.cons
    (.frz (.call (c "opposite") (.cons (.var 5) .nil))) .nil))) .nil))))) (.cons (.ifs (.cmp .ne (.cp (.var 11)
    (.v 11) (.var 10) (.nt (.isin (.var 11) .bool)) [11]) (.lst .nil)) (.cons (.ret (.bl false)) .nil) .nil)
    (.cons (.ret (.cmp .eq (.var 10) (.lst (.cons (.cmp .eq (.cp (.var 14) (.v 14) (.var 3) (.cmp .lt (.ix (.var
    14) (.int 1)) (.int 0)) [14]) (.lst .nil)) (.cons (.cmp .eq (.cp (.var 14) (.v 14) (.var 3) (.cmp .gt (.ix
    (.var 14) (.int 1)) (.int 0)) [14]) (.lst .nil)) .nil))))) .nil))))))))))))))))
def f_right (c g : Str → Nat) : Fn := ⟨"_law_right", ["_law_pot_here", "_law_first", "_law_second"], ["_law_pot_here", "_law_first", "_law_second", "_law_due", "_law_handed", "_law_one", "_law_other", "_law_both", "_law_at", "_law_many", "_law_truths", "_law_truth", "_law_value_here", "_law_often", "_law_row"], b_right c g⟩
def b_p_law (c g : Str → Nat) : Sm := (.cons (.for_ (.v 1) (.i1 .range (.b2 .max (.int 1) (.b2 .min (.b1 .len (.var 0)) (.int 16)))) (.cons (.set
    (.v 2) (.call (c "_law_pot") (.cons (.frz (.call (c "_law_cell_at") (.cons (.var 0) (.cons (.var 1) .nil))))
    (.cons (.var 1) .nil)))) (.cons (.set (.v 3) (.frz (.call (c "_law_kind") (.cons (.var 2) (.cons (.int 2)
    (.cons (.bl false) .nil)))))) (.cons (.set (.v 4) (.frz (.call (c "_law_listed") (.cons (.var 2) (.cons (.var
    3) .nil))))) (.cons (.ifs (.nt (.call (c "_law_right") (.cons (.var 2) (.cons (.var 4) (.cons (.frz (.call (c
    "_law_listed") (.cons (.var 2) (.cons (.var 3) .nil)))) .nil))))) (.cons (.ret (.bl false)) .nil) .nil)
    .nil))))) (.cons (.ret (.bl true)) .nil))
def f_p_law (c g : Str → Nat) : Fn := ⟨"law", ["_law_script"], ["_law_script", "_law_k", "_law_pot_here", "_law_kind_here", "_law_first"], b_p_law c g⟩
def c : Str → Nat := fun x => List.idxOf x ((["gathered", "added", "taken", "opposite", "is_bag", "_law_cell_at", "_law_pot", "_law_take", "_law_called", "_law_rows", "_law_kind", "_law_text", "_law_number", "_law_value", "_law_listed", "_law_summed", "_law_is", "_law_right", "law"] : List Str))
def g : Str → Nat := fun x => List.idxOf x (([] : List Str))
def tab : Tab := ⟨[(Nv.Pp.f_p_gathered c g), (Nv.Pp.f_p_added c g), (Nv.Pp.f_p_taken c g), (Nv.Pp.f_p_opposite c g), (Nv.Pp.f_p_is_bag c g), (Nv.V1.f_cell_at c g), (Nv.V1.f_pot c g), (Nv.V1.f_take c g), (Nv.V1.f_called c g), (Nv.V1.f_rows c g), (Nv.V1.f_kind c g), (Nv.V1.f_text c g), (Nv.V1.f_number c g), (Nv.V1.f_value c g), (Nv.V1.f_listed c g), (Nv.V1.f_summed c g), (Nv.V1.f_is c g), (f_right c g), (f_p_law c g)], [], ["tuple", "sorted", "list", "all", "len", "range", "sum", "isinstance", "bool", "int", "max", "min"], [], [], [], [], []⟩
theorem at_p_gathered : tab.fns[c "gathered"]? = some (Nv.Pp.f_p_gathered c g) := by rw [show c "gathered" = 0 by decide +kernel]; rfl
theorem at_p_added : tab.fns[c "added"]? = some (Nv.Pp.f_p_added c g) := by rw [show c "added" = 1 by decide +kernel]; rfl
theorem at_p_taken : tab.fns[c "taken"]? = some (Nv.Pp.f_p_taken c g) := by rw [show c "taken" = 2 by decide +kernel]; rfl
theorem at_p_opposite : tab.fns[c "opposite"]? = some (Nv.Pp.f_p_opposite c g) := by rw [show c "opposite" = 3 by decide +kernel]; rfl
theorem at_p_is_bag : tab.fns[c "is_bag"]? = some (Nv.Pp.f_p_is_bag c g) := by rw [show c "is_bag" = 4 by decide +kernel]; rfl
theorem at_cell_at : tab.fns[c "_law_cell_at"]? = some (Nv.V1.f_cell_at c g) := by rw [show c "_law_cell_at" = 5 by decide +kernel]; rfl
theorem at_pot : tab.fns[c "_law_pot"]? = some (Nv.V1.f_pot c g) := by rw [show c "_law_pot" = 6 by decide +kernel]; rfl
theorem at_take : tab.fns[c "_law_take"]? = some (Nv.V1.f_take c g) := by rw [show c "_law_take" = 7 by decide +kernel]; rfl
theorem at_called : tab.fns[c "_law_called"]? = some (Nv.V1.f_called c g) := by rw [show c "_law_called" = 8 by decide +kernel]; rfl
theorem at_rows : tab.fns[c "_law_rows"]? = some (Nv.V1.f_rows c g) := by rw [show c "_law_rows" = 9 by decide +kernel]; rfl
theorem at_kind : tab.fns[c "_law_kind"]? = some (Nv.V1.f_kind c g) := by rw [show c "_law_kind" = 10 by decide +kernel]; rfl
theorem at_text : tab.fns[c "_law_text"]? = some (Nv.V1.f_text c g) := by rw [show c "_law_text" = 11 by decide +kernel]; rfl
theorem at_number : tab.fns[c "_law_number"]? = some (Nv.V1.f_number c g) := by rw [show c "_law_number" = 12 by decide +kernel]; rfl
theorem at_value : tab.fns[c "_law_value"]? = some (Nv.V1.f_value c g) := by rw [show c "_law_value" = 13 by decide +kernel]; rfl
theorem at_listed : tab.fns[c "_law_listed"]? = some (Nv.V1.f_listed c g) := by rw [show c "_law_listed" = 14 by decide +kernel]; rfl
theorem at_summed : tab.fns[c "_law_summed"]? = some (Nv.V1.f_summed c g) := by rw [show c "_law_summed" = 15 by decide +kernel]; rfl
theorem at_is : tab.fns[c "_law_is"]? = some (Nv.V1.f_is c g) := by rw [show c "_law_is" = 16 by decide +kernel]; rfl
theorem at_right : tab.fns[c "_law_right"]? = some (f_right c g) := by rw [show c "_law_right" = 17 by decide +kernel]; rfl
theorem at_p_law : tab.fns[c "law"]? = some (f_p_law c g) := by rw [show c "law" = 18 by decide +kernel]; rfl
theorem k_p_gathered : (ckS tab (Nv.Pp.f_p_gathered c g).ns (Nv.Pp.f_p_gathered c g).body).l (defScope (top 1)) (defBody (top 1)) = true := by decide +kernel
theorem s_p_gathered : FnScope (Nv.Pp.f_p_gathered c g).ns (Nv.Pp.f_p_gathered c g).ps (defScope (top 1)) := ⟨rfl, rfl, rfl, by decide +kernel, rfl, by decide +kernel, by decide +kernel⟩
theorem a_p_gathered (kV doc pm : Value) (an : Option Addr) (cdv ct : Value) (us : List Value) (h : us.length = (Nv.Pp.f_p_gathered c g).ps.length) : bindArgs (PySem.W.fnOf "gathered" "gathered" (defArgs (top 1)) (defBody (top 1)) (defScope (top 1)) .none kV doc pm an cdv ct) ⟨us, []⟩ = pure ((Nv.Pp.f_p_gathered c g).ps.zip us) :=
  match us, h with
  | [_], _ => rfl
theorem k_p_added : (ckS tab (Nv.Pp.f_p_added c g).ns (Nv.Pp.f_p_added c g).body).l (defScope (top 2)) (defBody (top 2)) = true := by decide +kernel
theorem s_p_added : FnScope (Nv.Pp.f_p_added c g).ns (Nv.Pp.f_p_added c g).ps (defScope (top 2)) := ⟨rfl, rfl, rfl, by decide +kernel, rfl, by decide +kernel, by decide +kernel⟩
theorem a_p_added (kV doc pm : Value) (an : Option Addr) (cdv ct : Value) (us : List Value) (h : us.length = (Nv.Pp.f_p_added c g).ps.length) : bindArgs (PySem.W.fnOf "added" "added" (defArgs (top 2)) (defBody (top 2)) (defScope (top 2)) .none kV doc pm an cdv ct) ⟨us, []⟩ = pure ((Nv.Pp.f_p_added c g).ps.zip us) :=
  match us, h with
  | [_, _], _ => rfl
theorem k_p_taken : (ckS tab (Nv.Pp.f_p_taken c g).ns (Nv.Pp.f_p_taken c g).body).l (defScope (top 3)) (defBody (top 3)) = true := by decide +kernel
theorem s_p_taken : FnScope (Nv.Pp.f_p_taken c g).ns (Nv.Pp.f_p_taken c g).ps (defScope (top 3)) := ⟨rfl, rfl, rfl, by decide +kernel, rfl, by decide +kernel, by decide +kernel⟩
theorem a_p_taken (kV doc pm : Value) (an : Option Addr) (cdv ct : Value) (us : List Value) (h : us.length = (Nv.Pp.f_p_taken c g).ps.length) : bindArgs (PySem.W.fnOf "taken" "taken" (defArgs (top 3)) (defBody (top 3)) (defScope (top 3)) .none kV doc pm an cdv ct) ⟨us, []⟩ = pure ((Nv.Pp.f_p_taken c g).ps.zip us) :=
  match us, h with
  | [_, _], _ => rfl
theorem k_p_opposite : (ckS tab (Nv.Pp.f_p_opposite c g).ns (Nv.Pp.f_p_opposite c g).body).l (defScope (top 4)) (defBody (top 4)) = true := by decide +kernel
theorem s_p_opposite : FnScope (Nv.Pp.f_p_opposite c g).ns (Nv.Pp.f_p_opposite c g).ps (defScope (top 4)) := ⟨rfl, rfl, rfl, by decide +kernel, rfl, by decide +kernel, by decide +kernel⟩
theorem a_p_opposite (kV doc pm : Value) (an : Option Addr) (cdv ct : Value) (us : List Value) (h : us.length = (Nv.Pp.f_p_opposite c g).ps.length) : bindArgs (PySem.W.fnOf "opposite" "opposite" (defArgs (top 4)) (defBody (top 4)) (defScope (top 4)) .none kV doc pm an cdv ct) ⟨us, []⟩ = pure ((Nv.Pp.f_p_opposite c g).ps.zip us) :=
  match us, h with
  | [_], _ => rfl
theorem k_p_is_bag : (ckS tab (Nv.Pp.f_p_is_bag c g).ns (Nv.Pp.f_p_is_bag c g).body).l (defScope (top 5)) (defBody (top 5)) = true := by decide +kernel
theorem s_p_is_bag : FnScope (Nv.Pp.f_p_is_bag c g).ns (Nv.Pp.f_p_is_bag c g).ps (defScope (top 5)) := ⟨rfl, rfl, rfl, by decide +kernel, rfl, by decide +kernel, by decide +kernel⟩
theorem a_p_is_bag (kV doc pm : Value) (an : Option Addr) (cdv ct : Value) (us : List Value) (h : us.length = (Nv.Pp.f_p_is_bag c g).ps.length) : bindArgs (PySem.W.fnOf "is_bag" "is_bag" (defArgs (top 5)) (defBody (top 5)) (defScope (top 5)) .none kV doc pm an cdv ct) ⟨us, []⟩ = pure ((Nv.Pp.f_p_is_bag c g).ps.zip us) :=
  match us, h with
  | [_], _ => rfl
theorem k_cell_at : (ckS tab (Nv.V1.f_cell_at c g).ns (Nv.V1.f_cell_at c g).body).l (defScope (top 7)) (defBody (top 7)) = true := by decide +kernel
theorem s_cell_at : FnScope (Nv.V1.f_cell_at c g).ns (Nv.V1.f_cell_at c g).ps (defScope (top 7)) := ⟨rfl, rfl, rfl, by decide +kernel, rfl, by decide +kernel, by decide +kernel⟩
theorem a_cell_at (kV doc pm : Value) (an : Option Addr) (cdv ct : Value) (us : List Value) (h : us.length = (Nv.V1.f_cell_at c g).ps.length) : bindArgs (PySem.W.fnOf "_law_cell_at" "_law_cell_at" (defArgs (top 7)) (defBody (top 7)) (defScope (top 7)) .none kV doc pm an cdv ct) ⟨us, []⟩ = pure ((Nv.V1.f_cell_at c g).ps.zip us) :=
  match us, h with
  | [_, _], _ => rfl
theorem k_pot : (ckS tab (Nv.V1.f_pot c g).ns (Nv.V1.f_pot c g).body).l (defScope (top 8)) (defBody (top 8)) = true := by decide +kernel
theorem s_pot : FnScope (Nv.V1.f_pot c g).ns (Nv.V1.f_pot c g).ps (defScope (top 8)) := ⟨rfl, rfl, rfl, by decide +kernel, rfl, by decide +kernel, by decide +kernel⟩
theorem a_pot (kV doc pm : Value) (an : Option Addr) (cdv ct : Value) (us : List Value) (h : us.length = (Nv.V1.f_pot c g).ps.length) : bindArgs (PySem.W.fnOf "_law_pot" "_law_pot" (defArgs (top 8)) (defBody (top 8)) (defScope (top 8)) .none kV doc pm an cdv ct) ⟨us, []⟩ = pure ((Nv.V1.f_pot c g).ps.zip us) :=
  match us, h with
  | [_, _], _ => rfl
theorem k_take : (ckS tab (Nv.V1.f_take c g).ns (Nv.V1.f_take c g).body).l (defScope (top 9)) (defBody (top 9)) = true := by decide +kernel
theorem s_take : FnScope (Nv.V1.f_take c g).ns (Nv.V1.f_take c g).ps (defScope (top 9)) := ⟨rfl, rfl, rfl, by decide +kernel, rfl, by decide +kernel, by decide +kernel⟩
theorem a_take (kV doc pm : Value) (an : Option Addr) (cdv ct : Value) (us : List Value) (h : us.length = (Nv.V1.f_take c g).ps.length) : bindArgs (PySem.W.fnOf "_law_take" "_law_take" (defArgs (top 9)) (defBody (top 9)) (defScope (top 9)) .none kV doc pm an cdv ct) ⟨us, []⟩ = pure ((Nv.V1.f_take c g).ps.zip us) :=
  match us, h with
  | [_, _], _ => rfl
theorem k_called : (ckS tab (Nv.V1.f_called c g).ns (Nv.V1.f_called c g).body).l (defScope (top 10)) (defBody (top 10)) = true := by decide +kernel
theorem s_called : FnScope (Nv.V1.f_called c g).ns (Nv.V1.f_called c g).ps (defScope (top 10)) := ⟨rfl, rfl, rfl, by decide +kernel, rfl, by decide +kernel, by decide +kernel⟩
theorem a_called (kV doc pm : Value) (an : Option Addr) (cdv ct : Value) (us : List Value) (h : us.length = (Nv.V1.f_called c g).ps.length) : bindArgs (PySem.W.fnOf "_law_called" "_law_called" (defArgs (top 10)) (defBody (top 10)) (defScope (top 10)) .none kV doc pm an cdv ct) ⟨us, []⟩ = pure ((Nv.V1.f_called c g).ps.zip us) :=
  match us, h with
  | [_], _ => rfl
theorem k_rows : (ckS tab (Nv.V1.f_rows c g).ns (Nv.V1.f_rows c g).body).l (defScope (top 11)) (defBody (top 11)) = true := by decide +kernel
theorem s_rows : FnScope (Nv.V1.f_rows c g).ns (Nv.V1.f_rows c g).ps (defScope (top 11)) := ⟨rfl, rfl, rfl, by decide +kernel, rfl, by decide +kernel, by decide +kernel⟩
theorem a_rows (kV doc pm : Value) (an : Option Addr) (cdv ct : Value) (us : List Value) (h : us.length = (Nv.V1.f_rows c g).ps.length) : bindArgs (PySem.W.fnOf "_law_rows" "_law_rows" (defArgs (top 11)) (defBody (top 11)) (defScope (top 11)) .none kV doc pm an cdv ct) ⟨us, []⟩ = pure ((Nv.V1.f_rows c g).ps.zip us) :=
  match us, h with
  | [_, _, _, _], _ => rfl
theorem k_kind : (ckS tab (Nv.V1.f_kind c g).ns (Nv.V1.f_kind c g).body).l (defScope (top 12)) (defBody (top 12)) = true := by decide +kernel
theorem s_kind : FnScope (Nv.V1.f_kind c g).ns (Nv.V1.f_kind c g).ps (defScope (top 12)) := ⟨rfl, rfl, rfl, by decide +kernel, rfl, by decide +kernel, by decide +kernel⟩
theorem a_kind (kV doc pm : Value) (an : Option Addr) (cdv ct : Value) (us : List Value) (h : us.length = (Nv.V1.f_kind c g).ps.length) : bindArgs (PySem.W.fnOf "_law_kind" "_law_kind" (defArgs (top 12)) (defBody (top 12)) (defScope (top 12)) .none kV doc pm an cdv ct) ⟨us, []⟩ = pure ((Nv.V1.f_kind c g).ps.zip us) :=
  match us, h with
  | [_, _, _], _ => rfl
theorem k_text : (ckS tab (Nv.V1.f_text c g).ns (Nv.V1.f_text c g).body).l (defScope (top 13)) (defBody (top 13)) = true := by decide +kernel
theorem s_text : FnScope (Nv.V1.f_text c g).ns (Nv.V1.f_text c g).ps (defScope (top 13)) := ⟨rfl, rfl, rfl, by decide +kernel, rfl, by decide +kernel, by decide +kernel⟩
theorem a_text (kV doc pm : Value) (an : Option Addr) (cdv ct : Value) (us : List Value) (h : us.length = (Nv.V1.f_text c g).ps.length) : bindArgs (PySem.W.fnOf "_law_text" "_law_text" (defArgs (top 13)) (defBody (top 13)) (defScope (top 13)) .none kV doc pm an cdv ct) ⟨us, []⟩ = pure ((Nv.V1.f_text c g).ps.zip us) :=
  match us, h with
  | [_], _ => rfl
theorem k_number : (ckS tab (Nv.V1.f_number c g).ns (Nv.V1.f_number c g).body).l (defScope (top 14)) (defBody (top 14)) = true := by decide +kernel
theorem s_number : FnScope (Nv.V1.f_number c g).ns (Nv.V1.f_number c g).ps (defScope (top 14)) := ⟨rfl, rfl, rfl, by decide +kernel, rfl, by decide +kernel, by decide +kernel⟩
theorem a_number (kV doc pm : Value) (an : Option Addr) (cdv ct : Value) (us : List Value) (h : us.length = (Nv.V1.f_number c g).ps.length) : bindArgs (PySem.W.fnOf "_law_number" "_law_number" (defArgs (top 14)) (defBody (top 14)) (defScope (top 14)) .none kV doc pm an cdv ct) ⟨us, []⟩ = pure ((Nv.V1.f_number c g).ps.zip us) :=
  match us, h with
  | [_], _ => rfl
theorem k_value : (ckS tab (Nv.V1.f_value c g).ns (Nv.V1.f_value c g).body).l (defScope (top 15)) (defBody (top 15)) = true := by decide +kernel
theorem s_value : FnScope (Nv.V1.f_value c g).ns (Nv.V1.f_value c g).ps (defScope (top 15)) := ⟨rfl, rfl, rfl, by decide +kernel, rfl, by decide +kernel, by decide +kernel⟩
theorem a_value (kV doc pm : Value) (an : Option Addr) (cdv ct : Value) (us : List Value) (h : us.length = (Nv.V1.f_value c g).ps.length) : bindArgs (PySem.W.fnOf "_law_value" "_law_value" (defArgs (top 15)) (defBody (top 15)) (defScope (top 15)) .none kV doc pm an cdv ct) ⟨us, []⟩ = pure ((Nv.V1.f_value c g).ps.zip us) :=
  match us, h with
  | [_, _], _ => rfl
theorem k_listed : (ckS tab (Nv.V1.f_listed c g).ns (Nv.V1.f_listed c g).body).l (defScope (top 16)) (defBody (top 16)) = true := by decide +kernel
theorem s_listed : FnScope (Nv.V1.f_listed c g).ns (Nv.V1.f_listed c g).ps (defScope (top 16)) := ⟨rfl, rfl, rfl, by decide +kernel, rfl, by decide +kernel, by decide +kernel⟩
theorem a_listed (kV doc pm : Value) (an : Option Addr) (cdv ct : Value) (us : List Value) (h : us.length = (Nv.V1.f_listed c g).ps.length) : bindArgs (PySem.W.fnOf "_law_listed" "_law_listed" (defArgs (top 16)) (defBody (top 16)) (defScope (top 16)) .none kV doc pm an cdv ct) ⟨us, []⟩ = pure ((Nv.V1.f_listed c g).ps.zip us) :=
  match us, h with
  | [_, _], _ => rfl
theorem k_summed : (ckS tab (Nv.V1.f_summed c g).ns (Nv.V1.f_summed c g).body).l (defScope (top 17)) (defBody (top 17)) = true := by decide +kernel
theorem s_summed : FnScope (Nv.V1.f_summed c g).ns (Nv.V1.f_summed c g).ps (defScope (top 17)) := ⟨rfl, rfl, rfl, by decide +kernel, rfl, by decide +kernel, by decide +kernel⟩
theorem a_summed (kV doc pm : Value) (an : Option Addr) (cdv ct : Value) (us : List Value) (h : us.length = (Nv.V1.f_summed c g).ps.length) : bindArgs (PySem.W.fnOf "_law_summed" "_law_summed" (defArgs (top 17)) (defBody (top 17)) (defScope (top 17)) .none kV doc pm an cdv ct) ⟨us, []⟩ = pure ((Nv.V1.f_summed c g).ps.zip us) :=
  match us, h with
  | [_], _ => rfl
theorem k_is : (ckS tab (Nv.V1.f_is c g).ns (Nv.V1.f_is c g).body).l (defScope (top 18)) (defBody (top 18)) = true := by decide +kernel
theorem s_is : FnScope (Nv.V1.f_is c g).ns (Nv.V1.f_is c g).ps (defScope (top 18)) := ⟨rfl, rfl, rfl, by decide +kernel, rfl, by decide +kernel, by decide +kernel⟩
theorem a_is (kV doc pm : Value) (an : Option Addr) (cdv ct : Value) (us : List Value) (h : us.length = (Nv.V1.f_is c g).ps.length) : bindArgs (PySem.W.fnOf "_law_is" "_law_is" (defArgs (top 18)) (defBody (top 18)) (defScope (top 18)) .none kV doc pm an cdv ct) ⟨us, []⟩ = pure ((Nv.V1.f_is c g).ps.zip us) :=
  match us, h with
  | [_, _], _ => rfl
theorem k_right : (ckS tab (f_right c g).ns (f_right c g).body).l (defScope (top 19)) (defBody (top 19)) = true := by decide +kernel
theorem s_right : FnScope (f_right c g).ns (f_right c g).ps (defScope (top 19)) := ⟨rfl, rfl, rfl, by decide +kernel, rfl, by decide +kernel, by decide +kernel⟩
theorem a_right (kV doc pm : Value) (an : Option Addr) (cdv ct : Value) (us : List Value) (h : us.length = (f_right c g).ps.length) : bindArgs (PySem.W.fnOf "_law_right" "_law_right" (defArgs (top 19)) (defBody (top 19)) (defScope (top 19)) .none kV doc pm an cdv ct) ⟨us, []⟩ = pure ((f_right c g).ps.zip us) :=
  match us, h with
  | [_, _, _], _ => rfl
theorem k_p_law : (ckS tab (f_p_law c g).ns (f_p_law c g).body).l (defScope (top 20)) (defBody (top 20)) = true := by decide +kernel
theorem s_p_law : FnScope (f_p_law c g).ns (f_p_law c g).ps (defScope (top 20)) := ⟨rfl, rfl, rfl, by decide +kernel, rfl, by decide +kernel, by decide +kernel⟩
theorem a_p_law (kV doc pm : Value) (an : Option Addr) (cdv ct : Value) (us : List Value) (h : us.length = (f_p_law c g).ps.length) : bindArgs (PySem.W.fnOf "law" "law" (defArgs (top 20)) (defBody (top 20)) (defScope (top 20)) .none kV doc pm an cdv ct) ⟨us, []⟩ = pure ((f_p_law c g).ps.zip us) :=
  match us, h with
  | [_], _ => rfl
theorem all_mk {K : PySem.W.Frag} {w : World} {h : Heap} {mg : Str → Option Value} (X : K.In h) (G : h.Ns mainGlobals mg)
    {od0 an0 : Option Addr} {sl0 : Array (Option Value)} {f0 : Addr} {oc0 kV0 dc0 pm0 cd0 ct0 : Value}
    (a0 : PySem.W.nsIn K mainGlobals "gathered" = some (some (.ref f0))) (l0 : K.lookup f0 = some ⟨oc0, od0, .func (PySem.W.fnOf "gathered" "gathered" (defArgs (top 1)) (defBody (top 1)) (defScope (top 1)) .none kV0 dc0 pm0 an0 cd0 ct0), sl0⟩) (c0 : PySem.W.codeIn K cd0 "gathered" = true) (k0 : PySem.W.keepIn K (.ref f0) = true)
    {od1 an1 : Option Addr} {sl1 : Array (Option Value)} {f1 : Addr} {oc1 kV1 dc1 pm1 cd1 ct1 : Value}
    (a1 : PySem.W.nsIn K mainGlobals "added" = some (some (.ref f1))) (l1 : K.lookup f1 = some ⟨oc1, od1, .func (PySem.W.fnOf "added" "added" (defArgs (top 2)) (defBody (top 2)) (defScope (top 2)) .none kV1 dc1 pm1 an1 cd1 ct1), sl1⟩) (c1 : PySem.W.codeIn K cd1 "added" = true) (k1 : PySem.W.keepIn K (.ref f1) = true)
    {od2 an2 : Option Addr} {sl2 : Array (Option Value)} {f2 : Addr} {oc2 kV2 dc2 pm2 cd2 ct2 : Value}
    (a2 : PySem.W.nsIn K mainGlobals "taken" = some (some (.ref f2))) (l2 : K.lookup f2 = some ⟨oc2, od2, .func (PySem.W.fnOf "taken" "taken" (defArgs (top 3)) (defBody (top 3)) (defScope (top 3)) .none kV2 dc2 pm2 an2 cd2 ct2), sl2⟩) (c2 : PySem.W.codeIn K cd2 "taken" = true) (k2 : PySem.W.keepIn K (.ref f2) = true)
    {od3 an3 : Option Addr} {sl3 : Array (Option Value)} {f3 : Addr} {oc3 kV3 dc3 pm3 cd3 ct3 : Value}
    (a3 : PySem.W.nsIn K mainGlobals "opposite" = some (some (.ref f3))) (l3 : K.lookup f3 = some ⟨oc3, od3, .func (PySem.W.fnOf "opposite" "opposite" (defArgs (top 4)) (defBody (top 4)) (defScope (top 4)) .none kV3 dc3 pm3 an3 cd3 ct3), sl3⟩) (c3 : PySem.W.codeIn K cd3 "opposite" = true) (k3 : PySem.W.keepIn K (.ref f3) = true)
    {od4 an4 : Option Addr} {sl4 : Array (Option Value)} {f4 : Addr} {oc4 kV4 dc4 pm4 cd4 ct4 : Value}
    (a4 : PySem.W.nsIn K mainGlobals "is_bag" = some (some (.ref f4))) (l4 : K.lookup f4 = some ⟨oc4, od4, .func (PySem.W.fnOf "is_bag" "is_bag" (defArgs (top 5)) (defBody (top 5)) (defScope (top 5)) .none kV4 dc4 pm4 an4 cd4 ct4), sl4⟩) (c4 : PySem.W.codeIn K cd4 "is_bag" = true) (k4 : PySem.W.keepIn K (.ref f4) = true)
    {od5 an5 : Option Addr} {sl5 : Array (Option Value)} {f5 : Addr} {oc5 kV5 dc5 pm5 cd5 ct5 : Value}
    (a5 : PySem.W.nsIn K mainGlobals "_law_cell_at" = some (some (.ref f5))) (l5 : K.lookup f5 = some ⟨oc5, od5, .func (PySem.W.fnOf "_law_cell_at" "_law_cell_at" (defArgs (top 7)) (defBody (top 7)) (defScope (top 7)) .none kV5 dc5 pm5 an5 cd5 ct5), sl5⟩) (c5 : PySem.W.codeIn K cd5 "_law_cell_at" = true) (k5 : PySem.W.keepIn K (.ref f5) = true)
    {od6 an6 : Option Addr} {sl6 : Array (Option Value)} {f6 : Addr} {oc6 kV6 dc6 pm6 cd6 ct6 : Value}
    (a6 : PySem.W.nsIn K mainGlobals "_law_pot" = some (some (.ref f6))) (l6 : K.lookup f6 = some ⟨oc6, od6, .func (PySem.W.fnOf "_law_pot" "_law_pot" (defArgs (top 8)) (defBody (top 8)) (defScope (top 8)) .none kV6 dc6 pm6 an6 cd6 ct6), sl6⟩) (c6 : PySem.W.codeIn K cd6 "_law_pot" = true) (k6 : PySem.W.keepIn K (.ref f6) = true)
    {od7 an7 : Option Addr} {sl7 : Array (Option Value)} {f7 : Addr} {oc7 kV7 dc7 pm7 cd7 ct7 : Value}
    (a7 : PySem.W.nsIn K mainGlobals "_law_take" = some (some (.ref f7))) (l7 : K.lookup f7 = some ⟨oc7, od7, .func (PySem.W.fnOf "_law_take" "_law_take" (defArgs (top 9)) (defBody (top 9)) (defScope (top 9)) .none kV7 dc7 pm7 an7 cd7 ct7), sl7⟩) (c7 : PySem.W.codeIn K cd7 "_law_take" = true) (k7 : PySem.W.keepIn K (.ref f7) = true)
    {od8 an8 : Option Addr} {sl8 : Array (Option Value)} {f8 : Addr} {oc8 kV8 dc8 pm8 cd8 ct8 : Value}
    (a8 : PySem.W.nsIn K mainGlobals "_law_called" = some (some (.ref f8))) (l8 : K.lookup f8 = some ⟨oc8, od8, .func (PySem.W.fnOf "_law_called" "_law_called" (defArgs (top 10)) (defBody (top 10)) (defScope (top 10)) .none kV8 dc8 pm8 an8 cd8 ct8), sl8⟩) (c8 : PySem.W.codeIn K cd8 "_law_called" = true) (k8 : PySem.W.keepIn K (.ref f8) = true)
    {od9 an9 : Option Addr} {sl9 : Array (Option Value)} {f9 : Addr} {oc9 kV9 dc9 pm9 cd9 ct9 : Value}
    (a9 : PySem.W.nsIn K mainGlobals "_law_rows" = some (some (.ref f9))) (l9 : K.lookup f9 = some ⟨oc9, od9, .func (PySem.W.fnOf "_law_rows" "_law_rows" (defArgs (top 11)) (defBody (top 11)) (defScope (top 11)) .none kV9 dc9 pm9 an9 cd9 ct9), sl9⟩) (c9 : PySem.W.codeIn K cd9 "_law_rows" = true) (k9 : PySem.W.keepIn K (.ref f9) = true)
    {od10 an10 : Option Addr} {sl10 : Array (Option Value)} {f10 : Addr} {oc10 kV10 dc10 pm10 cd10 ct10 : Value}
    (a10 : PySem.W.nsIn K mainGlobals "_law_kind" = some (some (.ref f10))) (l10 : K.lookup f10 = some ⟨oc10, od10, .func (PySem.W.fnOf "_law_kind" "_law_kind" (defArgs (top 12)) (defBody (top 12)) (defScope (top 12)) .none kV10 dc10 pm10 an10 cd10 ct10), sl10⟩) (c10 : PySem.W.codeIn K cd10 "_law_kind" = true) (k10 : PySem.W.keepIn K (.ref f10) = true)
    {od11 an11 : Option Addr} {sl11 : Array (Option Value)} {f11 : Addr} {oc11 kV11 dc11 pm11 cd11 ct11 : Value}
    (a11 : PySem.W.nsIn K mainGlobals "_law_text" = some (some (.ref f11))) (l11 : K.lookup f11 = some ⟨oc11, od11, .func (PySem.W.fnOf "_law_text" "_law_text" (defArgs (top 13)) (defBody (top 13)) (defScope (top 13)) .none kV11 dc11 pm11 an11 cd11 ct11), sl11⟩) (c11 : PySem.W.codeIn K cd11 "_law_text" = true) (k11 : PySem.W.keepIn K (.ref f11) = true)
    {od12 an12 : Option Addr} {sl12 : Array (Option Value)} {f12 : Addr} {oc12 kV12 dc12 pm12 cd12 ct12 : Value}
    (a12 : PySem.W.nsIn K mainGlobals "_law_number" = some (some (.ref f12))) (l12 : K.lookup f12 = some ⟨oc12, od12, .func (PySem.W.fnOf "_law_number" "_law_number" (defArgs (top 14)) (defBody (top 14)) (defScope (top 14)) .none kV12 dc12 pm12 an12 cd12 ct12), sl12⟩) (c12 : PySem.W.codeIn K cd12 "_law_number" = true) (k12 : PySem.W.keepIn K (.ref f12) = true)
    {od13 an13 : Option Addr} {sl13 : Array (Option Value)} {f13 : Addr} {oc13 kV13 dc13 pm13 cd13 ct13 : Value}
    (a13 : PySem.W.nsIn K mainGlobals "_law_value" = some (some (.ref f13))) (l13 : K.lookup f13 = some ⟨oc13, od13, .func (PySem.W.fnOf "_law_value" "_law_value" (defArgs (top 15)) (defBody (top 15)) (defScope (top 15)) .none kV13 dc13 pm13 an13 cd13 ct13), sl13⟩) (c13 : PySem.W.codeIn K cd13 "_law_value" = true) (k13 : PySem.W.keepIn K (.ref f13) = true)
    {od14 an14 : Option Addr} {sl14 : Array (Option Value)} {f14 : Addr} {oc14 kV14 dc14 pm14 cd14 ct14 : Value}
    (a14 : PySem.W.nsIn K mainGlobals "_law_listed" = some (some (.ref f14))) (l14 : K.lookup f14 = some ⟨oc14, od14, .func (PySem.W.fnOf "_law_listed" "_law_listed" (defArgs (top 16)) (defBody (top 16)) (defScope (top 16)) .none kV14 dc14 pm14 an14 cd14 ct14), sl14⟩) (c14 : PySem.W.codeIn K cd14 "_law_listed" = true) (k14 : PySem.W.keepIn K (.ref f14) = true)
    {od15 an15 : Option Addr} {sl15 : Array (Option Value)} {f15 : Addr} {oc15 kV15 dc15 pm15 cd15 ct15 : Value}
    (a15 : PySem.W.nsIn K mainGlobals "_law_summed" = some (some (.ref f15))) (l15 : K.lookup f15 = some ⟨oc15, od15, .func (PySem.W.fnOf "_law_summed" "_law_summed" (defArgs (top 17)) (defBody (top 17)) (defScope (top 17)) .none kV15 dc15 pm15 an15 cd15 ct15), sl15⟩) (c15 : PySem.W.codeIn K cd15 "_law_summed" = true) (k15 : PySem.W.keepIn K (.ref f15) = true)
    {od16 an16 : Option Addr} {sl16 : Array (Option Value)} {f16 : Addr} {oc16 kV16 dc16 pm16 cd16 ct16 : Value}
    (a16 : PySem.W.nsIn K mainGlobals "_law_is" = some (some (.ref f16))) (l16 : K.lookup f16 = some ⟨oc16, od16, .func (PySem.W.fnOf "_law_is" "_law_is" (defArgs (top 18)) (defBody (top 18)) (defScope (top 18)) .none kV16 dc16 pm16 an16 cd16 ct16), sl16⟩) (c16 : PySem.W.codeIn K cd16 "_law_is" = true) (k16 : PySem.W.keepIn K (.ref f16) = true)
    {od17 an17 : Option Addr} {sl17 : Array (Option Value)} {f17 : Addr} {oc17 kV17 dc17 pm17 cd17 ct17 : Value}
    (a17 : PySem.W.nsIn K mainGlobals "_law_right" = some (some (.ref f17))) (l17 : K.lookup f17 = some ⟨oc17, od17, .func (PySem.W.fnOf "_law_right" "_law_right" (defArgs (top 19)) (defBody (top 19)) (defScope (top 19)) .none kV17 dc17 pm17 an17 cd17 ct17), sl17⟩) (c17 : PySem.W.codeIn K cd17 "_law_right" = true) (k17 : PySem.W.keepIn K (.ref f17) = true)
    {od18 an18 : Option Addr} {sl18 : Array (Option Value)} {f18 : Addr} {oc18 kV18 dc18 pm18 cd18 ct18 : Value}
    (a18 : PySem.W.nsIn K mainGlobals "law" = some (some (.ref f18))) (l18 : K.lookup f18 = some ⟨oc18, od18, .func (PySem.W.fnOf "law" "law" (defArgs (top 20)) (defBody (top 20)) (defScope (top 20)) .none kV18 dc18 pm18 an18 cd18 ct18), sl18⟩) (c18 : PySem.W.codeIn K cd18 "law" = true) (k18 : PySem.W.keepIn K (.ref f18) = true)
    (z0 : PySem.W.nsIn K mainGlobals "tuple" = some none)
    (z1 : PySem.W.nsIn K mainGlobals "sorted" = some none)
    (z2 : PySem.W.nsIn K mainGlobals "list" = some none)
    (z3 : PySem.W.nsIn K mainGlobals "all" = some none)
    (z4 : PySem.W.nsIn K mainGlobals "len" = some none)
    (z5 : PySem.W.nsIn K mainGlobals "range" = some none)
    (z6 : PySem.W.nsIn K mainGlobals "sum" = some none)
    (z7 : PySem.W.nsIn K mainGlobals "isinstance" = some none)
    (z8 : PySem.W.nsIn K mainGlobals "bool" = some none)
    (z9 : PySem.W.nsIn K mainGlobals "int" = some none)
    (z10 : PySem.W.nsIn K mainGlobals "max" = some none)
    (z11 : PySem.W.nsIn K mainGlobals "min" = some none) : Facts K w mg tab where
  fns := List.forall_mem_cons.mpr ⟨fn_top X G (by decide +kernel) a0 l0 c0 k0 s_p_gathered a_p_gathered k_p_gathered, List.forall_mem_cons.mpr ⟨fn_top X G (by decide +kernel) a1 l1 c1 k1 s_p_added a_p_added k_p_added, List.forall_mem_cons.mpr ⟨fn_top X G (by decide +kernel) a2 l2 c2 k2 s_p_taken a_p_taken k_p_taken, List.forall_mem_cons.mpr ⟨fn_top X G (by decide +kernel) a3 l3 c3 k3 s_p_opposite a_p_opposite k_p_opposite, List.forall_mem_cons.mpr ⟨fn_top X G (by decide +kernel) a4 l4 c4 k4 s_p_is_bag a_p_is_bag k_p_is_bag, List.forall_mem_cons.mpr ⟨fn_top X G (by decide +kernel) a5 l5 c5 k5 s_cell_at a_cell_at k_cell_at, List.forall_mem_cons.mpr ⟨fn_top X G (by decide +kernel) a6 l6 c6 k6 s_pot a_pot k_pot, List.forall_mem_cons.mpr ⟨fn_top X G (by decide +kernel) a7 l7 c7 k7 s_take a_take k_take, List.forall_mem_cons.mpr ⟨fn_top X G (by decide +kernel) a8 l8 c8 k8 s_called a_called k_called, List.forall_mem_cons.mpr ⟨fn_top X G (by decide +kernel) a9 l9 c9 k9 s_rows a_rows k_rows, List.forall_mem_cons.mpr ⟨fn_top X G (by decide +kernel) a10 l10 c10 k10 s_kind a_kind k_kind, List.forall_mem_cons.mpr ⟨fn_top X G (by decide +kernel) a11 l11 c11 k11 s_text a_text k_text, List.forall_mem_cons.mpr ⟨fn_top X G (by decide +kernel) a12 l12 c12 k12 s_number a_number k_number, List.forall_mem_cons.mpr ⟨fn_top X G (by decide +kernel) a13 l13 c13 k13 s_value a_value k_value, List.forall_mem_cons.mpr ⟨fn_top X G (by decide +kernel) a14 l14 c14 k14 s_listed a_listed k_listed, List.forall_mem_cons.mpr ⟨fn_top X G (by decide +kernel) a15 l15 c15 k15 s_summed a_summed k_summed, List.forall_mem_cons.mpr ⟨fn_top X G (by decide +kernel) a16 l16 c16 k16 s_is a_is k_is, List.forall_mem_cons.mpr ⟨fn_top X G (by decide +kernel) a17 l17 c17 k17 s_right a_right k_right, List.forall_mem_cons.mpr ⟨fn_top X G (by decide +kernel) a18 l18 c18 k18 s_p_law a_p_law k_p_law, (fun _ hz => nomatch hz)⟩⟩⟩⟩⟩⟩⟩⟩⟩⟩⟩⟩⟩⟩⟩⟩⟩⟩⟩
  blt := List.forall_mem_cons.mpr ⟨PySem.W.mg_none_of X G z0, List.forall_mem_cons.mpr ⟨PySem.W.mg_none_of X G z1, List.forall_mem_cons.mpr ⟨PySem.W.mg_none_of X G z2, List.forall_mem_cons.mpr ⟨PySem.W.mg_none_of X G z3, List.forall_mem_cons.mpr ⟨PySem.W.mg_none_of X G z4, List.forall_mem_cons.mpr ⟨PySem.W.mg_none_of X G z5, List.forall_mem_cons.mpr ⟨PySem.W.mg_none_of X G z6, List.forall_mem_cons.mpr ⟨PySem.W.mg_none_of X G z7, List.forall_mem_cons.mpr ⟨PySem.W.mg_none_of X G z8, List.forall_mem_cons.mpr ⟨PySem.W.mg_none_of X G z9, List.forall_mem_cons.mpr ⟨PySem.W.mg_none_of X G z10, List.forall_mem_cons.mpr ⟨PySem.W.mg_none_of X G z11, (fun _ hz => nomatch hz)⟩⟩⟩⟩⟩⟩⟩⟩⟩⟩⟩⟩
  con := (fun _ hz => nomatch hz)
  exc := (fun _ hz => nomatch hz)
  exm := (fun _ hz => nomatch hz)
  isx := (fun _ hz => nomatch hz)
  kds := (fun _ hz => nomatch hz)
end Nv.K13

set_option Elab.async false
set_option maxRecDepth 100000
set_option autoImplicit false
set_option linter.all false
set_option maxHeartbeats 4000000
/-! K13Law: what the law's last looks come to, in plain Lean -/
namespace Nv.K13
open PySem PySem.Spec PyProof.Rows L2 V1
theorem eV : EV tab c g := ⟨at_cell_at, at_pot, at_take, at_called, at_rows, at_kind, at_text, at_number, at_value⟩
theorem eL : EL tab c g := { toEV := eV, listed := at_listed, summed := at_summed, is_ := at_is }
theorem ePp : Pp.EPp tab c g := ⟨at_p_gathered⟩
theorem ePa : Pp.EPa tab c g := { toEPp := ePp, added := at_p_added }
theorem ePo : Pp.EPo tab c g := { toEPp := ePp, taken := at_p_taken, opposite := at_p_opposite }
/-- lists of rows, as data -/
theorem rows_py {k : Kd} {L : Rw} (hk : dep k ≤ 4) (h : ∀ r ∈ L, VD k r.1) : ∃ ps, pws0 (L.map rowV) = some ps ∧ SeqAt.shaped (.list ps) = true ∧ PyData.canLay0 (.list ps) = true ∧ ps.length = L.length := by
  obtain ⟨ps, e1, e2, e3, e4⟩ := Pds.of (n := 10) (ds := L.map rowV) fun d hd => by
    obtain ⟨r, hr, rfl⟩ := List.mem_map.mp hd
    exact row_pd hk (h r hr)
  have l : PyData.canLay0 (.list ps) = true := by
    have := pures_lay ps e2
    simpa [PyData.canLay0] using this
  refine ⟨ps, e1, ?_, l, by rw [e4, List.length_map]⟩
  unfold SeqAt.shaped
  have dd : PyData.depth (.list ps) ≤ 64 := by show PyData.depthAll ps + 1 ≤ 64; omega
  rw [l, decide_eq_true dd]; rfl
theorem mapM_any {s : Sto} {n : Nat} : ∀ {ds : List D} {ps : List PyData}, pws0 ds = some ps → ds.mapM (pyN s n) = some ps := by
  intro ds
  induction ds with
  | nil => intro ps h; cases h; rfl
  | cons d ds ih =>
    intro ps h
    obtain ⟨q, qs, rfl, h1, h2⟩ := pws_inv h
    rw [List.mapM_cons, pn_any h1, ih h2]; rfl
theorem eq_olf {s : Sto} {i : Nat} {k : Kd} {L : Rw} (hk : dep k ≤ 4) (hs : s[i]? = some (.lst (L.map rowV))) (h : ∀ r ∈ L, VD k r.1) : eqR s (.d (.obj i)) (.d (.lf (L.map rowV))) = some true := by
  obtain ⟨ps, e1, e2, e3, _⟩ := rows_py hk h
  have h1 : pyR s (.d (.obj i)) = some (.list ps) := by
    show (match s[i]? with | some (.lst xs) => (xs.mapM (pyN s 2)).map PyData.list | _ => none) = _
    rw [hs]
    show ((L.map rowV).mapM (pyN s 2)).map PyData.list = _
    rw [mapM_any e1]; rfl
  have h2 : pyR s (.d (.lf (L.map rowV))) = some (.list ps) := by
    show (pyWs _ (L.map rowV)).map PyData.list = _
    rw [pws_any _ _ e1]; rfl
  unfold eqR
  rw [h1, h2]
  simp only
  rw [if_pos ⟨e2, e2⟩, SeqAt.eqv_refl _ e3]
theorem eq_lnil {s : Sto} {k : Kd} {L : Rw} (hk : dep k ≤ 4) (h : ∀ r ∈ L, VD k r.1) : eqR s (.l (L.map rowV)) (.l []) = some L.isEmpty := by
  obtain ⟨ps, e1, e2, e3, e4⟩ := rows_py hk h
  have h1 : pyR s (.l (L.map rowV)) = some (.list ps) := by
    show ((L.map rowV).mapM (pyN s 2)).map PyData.list = _
    rw [mapM_any e1]; rfl
  have h2 : pyR s (.l []) = some (.list []) := rfl
  unfold eqR
  rw [h1, h2]
  simp only
  rw [if_pos ⟨e2, by decide +kernel⟩]
  congr 1
  cases L with
  | nil => cases e1; simp [PyData.eqv, PyData.eqvAll]
  | cons r L =>
    cases ps with
    | nil => simp at e4
    | cons p ps => simp [PyData.eqv, PyData.eqvAll]
theorem eq_nn {s : Sto} : eqR s (.l []) (.l []) = some true := by
  have h2 : pyR s (.l []) = some (.list []) := rfl
  unfold eqR
  rw [h2]
  simp only
  rw [if_pos ⟨by decide +kernel, by decide +kernel⟩]
  simp [PyData.eqv, PyData.eqvAll]
theorem eq_bls {s : Sto} {a b : Bool} : eqR s (.d (.lf [.bl a, .bl b])) (.l [.bl a, .bl b]) = some true := by
  have h1 : pyR s (.d (.lf [.bl a, .bl b])) = some (.list [.bool a, .bool b]) := rfl
  have h2 : pyR s (.l [.bl a, .bl b]) = some (.list [.bool a, .bool b]) := rfl
  unfold eqR
  rw [h1, h2]
  simp only
  have e : SeqAt.shaped (.list [.bool a, .bool b]) = true := by cases a <;> cases b <;> decide +kernel
  rw [if_pos ⟨e, e⟩]
  cases a <;> cases b <;> decide +kernel
/-! bags -/
theorem bag_1 {F A : Rw} (h : IsG F A) : A.all (fun r => decide (0 < r.2)) = (A.filter fun r => decide (r.2 < 0)).isEmpty := by
  rw [Bool.eq_iff_iff, List.all_eq_true, List.isEmpty_iff, List.filter_eq_nil_iff]
  constructor
  · intro q r hr hn
    have := of_decide_eq_true (q r hr)
    have := of_decide_eq_true hn
    omega
  · intro q r hr
    have h0 := ((h.mem r).mp hr).2
    have : ¬ r.2 < 0 := fun z => q r hr (decide_eq_true z)
    exact decide_eq_true (by omega)
theorem bag_2 {F A B : Rw} (h : IsG F A) (g : IsG (A.map fun r => (r.1, r.2 * (-1))) B) : B.all (fun r => decide (0 < r.2)) = (A.filter fun r => decide (r.2 > 0)).isEmpty := by
  rw [bag_1 g, Bool.eq_iff_iff, List.isEmpty_iff, List.isEmpty_iff, List.filter_eq_nil_iff, List.filter_eq_nil_iff]
  have hc : ∀ v, cnt (A.map fun r => (r.1, r.2 * (-1))) v = - cnt F v := fun v => by rw [cnt_mul, h.cnt]; omega
  constructor
  · intro q r hr hn
    have hn := of_decide_eq_true hn
    obtain ⟨h1, h2⟩ := (h.mem r).mp hr
    have hb : (r.1, -r.2) ∈ B := (g.mem _).mpr ⟨by rw [hc, ← h1], by show -r.2 ≠ 0; omega⟩
    exact q _ hb (decide_eq_true (by show -r.2 < 0; omega))
  · intro q r hr hn
    have hn := of_decide_eq_true hn
    obtain ⟨h1, h2⟩ := (g.mem r).mp hr
    rw [hc] at h1
    have hb : (r.1, -r.2) ∈ A := (h.mem _).mpr ⟨by show -r.2 = cnt F r.1; omega, by show -r.2 ≠ 0; omega⟩
    exact q _ hb (decide_eq_true (by show -r.2 > 0; omega))
theorem cnt_big {N : Nat} {v : D} : ∀ {rs : Rw}, (∀ r ∈ rs, r.2.natAbs ≤ N) → (cnt rs v).natAbs ≤ rs.length * N
  | [], _ => by rw [cnt_nil]; simp
  | r :: rs, h => by
    rw [cnt_cons, List.length_cons, Nat.add_mul]
    have h1 := cnt_big (N := N) (v := v) (rs := rs) fun z hz => h z (.tail _ hz)
    have h2 := h r (.head _)
    split <;> omega
theorem isG_big {N : Nat} {F A : Rw} (h : IsG F A) (q : ∀ r ∈ F, r.2.natAbs ≤ N) : ∀ r ∈ A, r.2.natAbs ≤ F.length * N := fun r hr => by
  rw [((h.mem r).mp hr).1]
  exact cnt_big q
/-! rows another way about -/
theorem cnt_turn {F : Rw} {i : Nat} {v : D} : cnt ((F.drop i).reverse ++ F.take i) v = cnt F v := by
  rw [cnt_app, cnt_perm (List.reverse_perm _)]
  have e : cnt F v = cnt (F.take i ++ F.drop i) v := by rw [List.take_append_drop]
  rw [e, cnt_app]
  omega
theorem cnt_times {F A : Rw} (h : IsG F A) {z : Int} {v : D} : cnt (A.map fun r => (r.1, r.2 * z)) v = cnt (F.map fun r => (r.1, z * r.2)) v := by
  have e : (F.map fun r => (r.1, z * r.2)) = F.map fun r => (r.1, r.2 * z) := List.map_congr_left fun r _ => by rw [Int.mul_comm]
  rw [e, cnt_mul, cnt_mul, h.cnt]
theorem cnt_opp {F A : Rw} (h : IsG F A) {v : D} : cnt (A.map fun r => (r.1, r.2 * (-1))) v = cnt (F.map fun r => (r.1, - r.2)) v := by
  have e : (F.map fun r => (r.1, - r.2)) = F.map fun r => (r.1, r.2 * (-1)) := List.map_congr_left fun r _ => by rw [show -r.2 = r.2 * (-1) by omega]
  rw [e, cnt_mul, cnt_mul, h.cnt]
end Nv.K13

set_option Elab.async false
set_option maxRecDepth 100000
set_option autoImplicit false
set_option linter.all false
set_option maxHeartbeats 4000000
/-! K13Law2: _law_right -/
namespace Nv.K13
open PySem PySem.Spec PyProof.Rows L2 V1
theorem tk' {n p : Nat} {s : Sto} {k : Int} (hn : 1 ≤ n) (hp : PotAt 2 p s) (h1 : 0 < k) (h2 : k < 2 ^ 250) : ∃ d s', 0 ≤ d ∧ d < k ∧ Pc 2 p s s' ∧ callN tab n (c "_law_take") [.obj p, .int k] (s ++ [.lst []]) = .ok (.d (.int d)) (s' ++ [.lst []]) := tk eV hn hp (fun _ => rfl) h1 h2
theorem cp_two {n : Nat} {s : Sto} {F : Rw} {f : D × Int → D × Int} {e : Ex} {x1 x2 x3 x4 x5 x6 x7 x8 x9 x10 x11 x14 : Option D} {K : List D → Sto → Res RD} (hl : F.length ≤ 1000)
    (h : ∀ r ∈ F, ∀ (K1 : D → Sto → Res RD), evv (callN tab n) tab.gc e [x1, x2, x3, x4, x5, x6, x7, x8, x9, x10, x11, none, some r.1, some (.int r.2), x14] s K1 = K1 (rowV (f r)) s) :
    cpK (.c (.v 12) (.c (.v 13) .n)) none (den (callN tab n) tab.gc .nil).b (den (callN tab n) tab.gc e).v (wipeL [x1, x2, x3, x4, x5, x6, x7, x8, x9, x10, x11, none, none, none, x14] [12, 13]) (F.map rowV) [] s K = K ((F.map f).map rowV) s := by
  show cpK _ _ _ _ [x1, x2, x3, x4, x5, x6, x7, x8, x9, x10, x11, none, none, none, x14] _ _ _ _ = _
  rw [List.map_map, cp_all (src := none) trivial (by rw [List.length_nil, List.length_map, sizeLine_eq]; omega) (all2_maps fun r hr K1 K2 => ?_) K, List.nil_append]
  have q := h r hr
  obtain ⟨rv, rn⟩ := r
  show btK (bindT _ (.tup [rv, .int rn]) _) _ = K1 (rowV (f (rv, rn))) s
  simp -implicitDefEqProofs only [bt_2, bt_v12, bt_v13, evb_nil, if_true]
  exact q K1
theorem cp_sel {n : Nat} {s : Sto} {F : Rw} {p : D × Int → Bool} {e : Ex} {x1 x2 x3 x4 x5 x6 x7 x8 x9 x10 x11 x12 x13 x14 : Option D} {K : List D → Sto → Res RD} (hl : F.length ≤ 1000)
    (h : ∀ r ∈ F, ∀ (K1 : Bool → Sto → Res RD), evb (callN tab n) tab.gc e [x1, x2, x3, x4, x5, x6, x7, x8, x9, x10, x11, x12, x13, x14, some (rowV r)] s K1 = K1 (p r) s) :
    cpK (.v 14) none (den (callN tab n) tab.gc e).b (den (callN tab n) tab.gc (.var 14)).v (wipeL [x1, x2, x3, x4, x5, x6, x7, x8, x9, x10, x11, x12, x13, x14, none] [14]) (F.map rowV) [] s K = K ((F.filter p).map rowV) s := by
  show cpK _ _ _ _ [x1, x2, x3, x4, x5, x6, x7, x8, x9, x10, x11, x12, x13, x14, none] _ _ _ _ = _
  let pp : D → Bool := fun d => match d with | .tup [v, .int i] => p (v, i) | _ => false
  rw [cp_if (src := none) (p := pp) (f := id) trivial (by rw [List.length_nil, List.length_map, sizeLine_eq]; omega) (fun x hx K1 K2 => ?_) K, List.nil_append, List.map_id, List.filter_map]
  · rfl
  · obtain ⟨⟨rv, rn⟩, hr, rfl⟩ := List.mem_map.mp hx
    have q := h _ hr
    show btK (bindT (.v 14) (rowV (rv, rn)) _) _ = if p (rv, rn) = true then K1 (rowV (rv, rn)) s else K2 s
    rw [bt_v14, q]
    simp -implicitDefEqProofs only [evv_eq, ev_var14, al_d]
theorem t_right {m p : Nat} {s : Sto} {k : Kd} {F S : Rw} (hm : 10 ≤ m) (hp : PotAt 2 p s) (hk : dep k ≤ 4) (hF : ∀ r ∈ F, VD k r.1 ∧ Cb 57 r.2) (hS : ∀ r ∈ S, VD k r.1 ∧ Cb 57 r.2) (lF : F.length ≤ 14) (lS : S.length ≤ 14) :
    ∃ s', Pc 2 p s s' ∧ callN tab m (c "_law_right") [.obj p, .lf (F.map rowV), .lf (S.map rowV)] s = .ok (.d (.bl true)) s' := by
  obtain ⟨n, rfl⟩ : ∃ n, m = n + 1 := ⟨m - 1, by omega⟩
  have vF : ∀ r ∈ F, VD k r.1 := fun r hr => (hF r hr).1
  have vS : ∀ r ∈ S, VD k r.1 := fun r hr => (hS r hr).1
  have bF : ∀ r ∈ F, r.2.natAbs ≤ 10 ^ 57 := fun r hr => (hF r hr).2
  have vFS : ∀ r ∈ F ++ S, VD k r.1 := fun r hr => by
    rcases List.mem_append.mp hr with h | h
    · exact vF r h
    · exact vS r h
  -- the sum, what is gathered
  obtain ⟨A, gA, e1⟩ := t_summed eL (m := n) (s := s) (by omega) hp.clo hk vF (by omega)
  have vA := gA.vd vF
  have lA := gA.le
  have hpL : PotAt 2 p (s ++ [.lst (F.map rowV)]) := hp.push (rows_lt vF)
  obtain ⟨A2, gA2, e2⟩ := Pp.t_gathered ePp (m := n) (s := s ++ [.lst (F.map rowV)]) (k := k) (rs := F) (d := .obj s.length) (by omega) hpL.clo (.obj mid_at) hk vF (by omega)
  obtain rfl := gA2.uni (k := k) (gA2.vd vF) gA (fun _ => rfl)
  have e3 := t_is eL (m := n) (s := s ++ [.lst (F.map rowV)]) (by omega) hpL.clo hk vA
  have e4 := eq_olf (s := s ++ [.lst (F.map rowV)]) (i := s.length) hk mid_at vF
  have e5 : m0R .clear (.obj s.length) (s ++ [.lst (F.map rowV)]) = .ok (.d .non) (s ++ [.lst []]) := by
    unfold m0R
    simp only
    rw [mid_at]
    simp only
    rw [set_mid]
  have hpN : PotAt 2 p (s ++ [.lst []]) := hp.push rfl
  obtain ⟨B, gB, e6⟩ := Pp.t_gathered ePp (m := n) (s := s ++ [.lst []]) (k := k) (rs := S) (d := .lf (S.map rowV)) (src := none) (by omega) hpN.clo .lf hk vS (by omega)
  have vB := gB.vd vS
  have lB := gB.le
  obtain ⟨C, gC, e7⟩ := t_summed eL (m := n) (s := s ++ [.lst []]) (by omega) hpN.clo hk vFS (by rw [List.length_append]; omega)
  have vC := gC.vd vFS
  obtain ⟨C1, gC1, e8⟩ := Pp.t_added ePa (m := n) (s := s ++ [.lst []]) (by omega) hpN.clo hk vA vB (by omega)
  have vAB : ∀ r ∈ A2 ++ B, VD k r.1 := fun r hr => by
    rcases List.mem_append.mp hr with h | h
    · exact vA r h
    · exact vB r h
  have vBA : ∀ r ∈ B ++ A2, VD k r.1 := fun r hr => by
    rcases List.mem_append.mp hr with h | h
    · exact vB r h
    · exact vA r h
  obtain rfl := gC1.uni (k := k) (gC1.vd vAB) gC (fun v => by rw [cnt_app, cnt_app, gA.cnt, gB.cnt])
  obtain ⟨C2, gC2, e9⟩ := Pp.t_added ePa (m := n) (s := s ++ [.lst []]) (by omega) hpN.clo hk vB vA (by omega)
  obtain rfl := gC2.uni (k := k) (gC2.vd vBA) gC (fun v => by rw [cnt_app, cnt_app, gA.cnt, gB.cnt]; omega)
  have e10 := t_is eL (m := n) (s := s ++ [.lst []]) (by omega) hpN.clo hk vC
  -- turned about
  obtain ⟨a, s1, a0, a1, p1, e11⟩ := tk' (n := n) (k := (F.length : Int) + 1) (by omega) hp (by omega) (by omega)
  obtain ⟨i, rfl⟩ := Int.eq_ofNat_of_zero_le a0
  have hp1 := p1.at_ hp
  have hp1N : PotAt 2 p (s1 ++ [.lst []]) := hp1.push rfl
  have vT : ∀ r ∈ (F.drop i).reverse ++ F.take i, VD k r.1 := fun r hr => by
    rcases List.mem_append.mp hr with h | h
    · exact vF r (List.mem_of_mem_drop (List.mem_reverse.mp h))
    · exact vF r (List.mem_of_mem_take h)
  obtain ⟨A3, gA3, e12⟩ := Pp.t_gathered ePp (m := n) (s := s1 ++ [.lst []]) (k := k) (rs := (F.drop i).reverse ++ F.take i) (d := .lf (((F.drop i).reverse ++ F.take i).map rowV)) (src := none) (by omega) hp1N.clo .lf hk vT (by rw [List.length_append, List.length_reverse, List.length_drop, List.length_take]; omega)
  obtain rfl := gA3.uni (k := k) (gA3.vd vT) gA (fun v => cnt_turn)
  have e13 := t_is eL (m := n) (s := s1 ++ [.lst []]) (by omega) hp1N.clo hk vA
  have c1 : cutD (F.map rowV) (some (i : Int)) none = (F.drop i).map rowV := by rw [cut_from, List.map_drop]
  have c2 : cutD (F.map rowV) none (some (i : Int)) = (F.take i).map rowV := by rw [cut_to, List.map_take]
  have c3 : ((F.drop i).map rowV).reverse = (F.drop i).reverse.map rowV := List.map_reverse.symm
  have c4 : ∀ s, binR .add s (.l ((F.drop i).reverse.map rowV)) (.l ((F.take i).map rowV)) = some (.l (((F.drop i).reverse ++ F.take i).map rowV)) := fun s => by
    rw [bin_ll (by rw [List.length_map, List.length_map, List.length_reverse, List.length_drop, List.length_take, sizeLine_eq]; omega), List.map_append]
  -- many
  have hpw : ∀ s, binR .pow s (.d (.int 10)) (.d (.int 60)) = some (.d (.int 1000000000000000000000000000000000000000000000000000000000000)) := fun s => by
    rw [bin_pow ⟨by decide, by decide, by decide⟩]; rfl
  have hmu : ∀ s, binR .mul s (.d (.int 2)) (.d (.int 1000000000000000000000000000000000000000000000000000000000000)) = some (.d (.int 2000000000000000000000000000000000000000000000000000000000000)) := fun s => bin_mul (.inl ⟨by decide, by decide⟩)
  have hsu : (2000000000000000000000000000000000000000000000000000000000000 : Int) - 1 = 1999999999999999999999999999999999999999999999999999999999999 := by decide
  obtain ⟨b, s2, b0, b1, p2, e14⟩ := tk' (n := n) (k := 1999999999999999999999999999999999999999999999999999999999999) (by omega) hp1 (by decide) (by decide)
  have hp2 := p2.at_ hp1
  obtain ⟨d, s3, d0, d1, p3, e15⟩ := tk' (n := n) (k := 4) (by omega) hp2 (by decide) (by decide)
  have hp3 := p3.at_ hp2
  have hp3N : PotAt 2 p (s3 ++ [.lst []]) := hp3.push rfl
  obtain ⟨z, zb, e16⟩ : ∃ z : Int, z.natAbs ≤ 10 ^ 60 ∧ ∀ s, ixR s (.l [.int 0, .int 1, .int (-1), .int (b - 1000000000000000000000000000000000000000000000000000000000000 + 1)]) (.d (.int d)) = some (.d (.int z)) := by
    obtain ⟨j, rfl⟩ := Int.eq_ofNat_of_zero_le d0
    have hj : j = 0 ∨ j = 1 ∨ j = 2 ∨ j = 3 := by omega
    rcases hj with rfl | rfl | rfl | rfl
    · exact ⟨0, by decide, fun s => rfl⟩
    · exact ⟨1, by decide, fun s => rfl⟩
    · exact ⟨-1, by decide, fun s => rfl⟩
    · exact ⟨_, by omega, fun s => rfl⟩
  have bA := isG_big gA bF
  have zw : ∀ r ∈ A3, CMulW r.2 z := fun r hr => small_wide (Nat.lt_of_le_of_lt (bA r hr) (by calc F.length * 10 ^ 57 ≤ 14 * 10 ^ 57 := Nat.mul_le_mul_right _ lF
    _ < 2 ^ 3000 := by decide +kernel)) (Nat.lt_of_le_of_lt zb (by decide +kernel))
  have zo : ∀ r ∈ A3, CMulW r.2 (-1) := fun r hr => small_wide (Nat.lt_of_le_of_lt (bA r hr) (by calc F.length * 10 ^ 57 ≤ 14 * 10 ^ 57 := Nat.mul_le_mul_right _ lF
    _ < 2 ^ 3000 := by decide +kernel)) (by decide +kernel)
  have zf : ∀ r ∈ F, CMulW z r.2 := fun r hr => small_wide (Nat.lt_of_le_of_lt zb (by decide +kernel)) (Nat.lt_of_le_of_lt (bF r hr) (by decide +kernel))
  obtain ⟨M, gM, e17⟩ := Pp.t_taken ePo.toEPt (m := n) (s := s3 ++ [.lst []]) (by omega) hp3N.clo hk vA (by omega) zw
  have vM : ∀ r ∈ F.map (fun r => (r.1, z * r.2)), VD k r.1 := fun r hr => by
    obtain ⟨q, hq, rfl⟩ := List.mem_map.mp hr
    exact vF q hq
  obtain ⟨M2, gM2, e18⟩ := t_summed eL (m := n) (s := s3 ++ [.lst []]) (by omega) hp3N.clo hk vM (by rw [List.length_map]; omega)
  obtain rfl := gM2.uni (k := k) (gM2.vd vM) gM (fun v => (cnt_times gA).symm)
  have e19 := t_is eL (m := n) (s := s3 ++ [.lst []]) (by omega) hp3N.clo hk (gM2.vd vM)
  obtain ⟨O, gO, e20⟩ := Pp.t_opposite ePo (m := n) (s := s3 ++ [.lst []]) (by omega) hp3N.clo hk vA (by omega) zo
  have vO : ∀ r ∈ F.map (fun r => (r.1, - r.2)), VD k r.1 := fun r hr => by
    obtain ⟨q, hq, rfl⟩ := List.mem_map.mp hr
    exact vF q hq
  obtain ⟨O2, gO2, e21⟩ := t_summed eL (m := n) (s := s3 ++ [.lst []]) (by omega) hp3N.clo hk vO (by rw [List.length_map]; omega)
  obtain rfl := gO2.uni (k := k) (gO2.vd vO) gO (fun v => (cnt_opp gA).symm)
  have e22 := t_is eL (m := n) (s := s3 ++ [.lst []]) (by omega) hp3N.clo hk (gO2.vd vO)
  have lO := gO2.le
  rw [List.length_map] at lO
  have e23 := Pp.t_is_bag (m := n) (s := s3 ++ [.lst []]) (A := A3) at_p_is_bag (by omega) hp3N.clo (by omega)
  have e24 := Pp.t_is_bag (m := n) (s := s3 ++ [.lst []]) (A := O2) at_p_is_bag (by omega) hp3N.clo (by omega)
  rw [bag_1 gA] at e23
  rw [bag_2 gA gO] at e24
  have e25 := eq_lnil (s := s3 ++ [.lst []]) (L := A3.filter fun r => decide (r.2 < 0)) hk fun r hr => vA r (List.mem_filter.mp hr).1
  have e26 := eq_lnil (s := s3 ++ [.lst []]) (L := A3.filter fun r => decide (r.2 > 0)) hk fun r hr => vA r (List.mem_filter.mp hr).1
  -- comprehensions
  have h1 : ∀ (x3 x4 x5 x6 x7 x8 : Option D) (K : List D → Sto → Res RD), cpK (.c (.v 12) (.c (.v 13) .n)) none (den (callN tab n) tab.gc .nil).b (den (callN tab n) tab.gc (.tup (.cons (.var 12) (.cons (.bin .mul (.var 9) (.var 13)) .nil)))).v (wipeL [some (.obj p), some (.lf (F.map rowV)), some (.lf (S.map rowV)), x3, x4, x5, x6, x7, x8, some (.int z), none, none, none, none, none] [12, 13]) (F.map rowV) [] (s3 ++ [.lst []]) K = K ((F.map fun r => (r.1, z * r.2)).map rowV) (s3 ++ [.lst []]) := fun x3 x4 x5 x6 x7 x8 K => cp_two (by omega) fun r hr K1 => by
    have hmul := bin_mulW (s := s3 ++ [.lst []]) (zf r hr)
    obtain ⟨rv, rn⟩ := r
    generalize F.map rowV = FR at *
    generalize S.map rowV = SR at *
    simp -implicitDefEqProofs [hmul]
  have h2 : ∀ (x3 x4 x5 x6 x7 x8 x9 : Option D) (K : List D → Sto → Res RD), cpK (.c (.v 12) (.c (.v 13) .n)) none (den (callN tab n) tab.gc .nil).b (den (callN tab n) tab.gc (.tup (.cons (.var 12) (.cons (.neg (.var 13)) .nil)))).v (wipeL [some (.obj p), some (.lf (F.map rowV)), some (.lf (S.map rowV)), x3, x4, x5, x6, x7, x8, x9, none, none, none, none, none] [12, 13]) (F.map rowV) [] (s3 ++ [.lst []]) K = K ((F.map fun r => (r.1, - r.2)).map rowV) (s3 ++ [.lst []]) := fun x3 x4 x5 x6 x7 x8 x9 K => cp_two (by omega) fun r hr K1 => by
    obtain ⟨rv, rn⟩ := r
    generalize F.map rowV = FR at *
    generalize S.map rowV = SR at *
    simp -implicitDefEqProofs
  have h3 : ∀ (b1 b2 : Bool) (x0 x1 x2 x3 x4 x5 x6 x7 x8 x9 x10 : Option D) (K : List D → Sto → Res RD), cpK (.v 11) none (den (callN tab n) tab.gc (.nt (.isin (.var 11) .bool))).b (den (callN tab n) tab.gc (.var 11)).v (wipeL [x0, x1, x2, x3, x4, x5, x6, x7, x8, x9, x10, none, none, none, none] [11]) [.bl b1, .bl b2] [] (s3 ++ [.lst []]) K = K [] (s3 ++ [.lst []]) := fun b1 b2 x0 x1 x2 x3 x4 x5 x6 x7 x8 x9 x10 K => by
    show cpK _ _ _ _ [x0, x1, x2, x3, x4, x5, x6, x7, x8, x9, x10, none, none, none, none] _ _ _ _ = _
    rw [cp_if (src := none) (p := fun _ => false) (f := id) trivial (by rw [sizeLine_eq]; simp) (fun x hx K1 K2 => ?_) K]
    · rfl
    · obtain ⟨b, rfl⟩ : ∃ b, x = .bl b := by
        simp at hx
        rcases hx with rfl | rfl <;> exact ⟨_, rfl⟩
      simp -implicitDefEqProofs
  have h4 : ∀ (x0 x1 x2 x3 x4 x5 x6 x7 x8 x9 x10 : Option D) (K : List D → Sto → Res RD), cpK (.v 14) none (den (callN tab n) tab.gc (.cmp .lt (.ix (.var 14) (.int 1)) (.int 0))).b (den (callN tab n) tab.gc (.var 14)).v (wipeL [x0, x1, x2, x3, x4, x5, x6, x7, x8, x9, x10, none, none, none, none] [14]) (A3.map rowV) [] (s3 ++ [.lst []]) K = K ((A3.filter fun r => decide (r.2 < 0)).map rowV) (s3 ++ [.lst []]) := fun x0 x1 x2 x3 x4 x5 x6 x7 x8 x9 x10 K => cp_sel (by omega) fun r hr K1 => by
    obtain ⟨rv, rn⟩ := r
    show evb _ _ _ [x0, x1, x2, x3, x4, x5, x6, x7, x8, x9, x10, none, none, none, some (.tup [rv, .int rn])] _ _ = K1 (decide (rn < 0)) _
    simp -implicitDefEqProofs
  have h5 : ∀ (x0 x1 x2 x3 x4 x5 x6 x7 x8 x9 x10 : Option D) (K : List D → Sto → Res RD), cpK (.v 14) none (den (callN tab n) tab.gc (.cmp .gt (.ix (.var 14) (.int 1)) (.int 0))).b (den (callN tab n) tab.gc (.var 14)).v (wipeL [x0, x1, x2, x3, x4, x5, x6, x7, x8, x9, x10, none, none, none, none] [14]) (A3.map rowV) [] (s3 ++ [.lst []]) K = K ((A3.filter fun r => decide (r.2 > 0)).map rowV) (s3 ++ [.lst []]) := fun x0 x1 x2 x3 x4 x5 x6 x7 x8 x9 x10 K => cp_sel (by omega) fun r hr K1 => by
    obtain ⟨rv, rn⟩ := r
    show evb _ _ _ [x0, x1, x2, x3, x4, x5, x6, x7, x8, x9, x10, none, none, none, some (.tup [rv, .int rn])] _ _ = K1 (decide (rn > 0)) _
    simp -implicitDefEqProofs
  have hff : ∀ s, binR .add s (.d (.lf (F.map rowV))) (.d (.lf (S.map rowV))) = some (.l ((F ++ S).map rowV)) := fun s => by
    rw [bin_ff (by rw [List.length_map, List.length_map, sizeLine_eq]; omega), List.map_append]
  have hlen : ((F.map rowV).length : Int) = F.length := by rw [List.length_map]
  have h3l : s3.length = s.length := by rw [p3.len, p2.len, p1.len]
  have hfin : Nv.fin s.length (.d (.bl true)) (s3 ++ [.lst []]) = .ok (.d (.bl true)) s3 := by
    rw [← h3l]
    exact fin_g hp3.clo rfl
  refine ⟨s3, (p1.trans p2).trans p3, ?_⟩
  rw [call_at at_right rfl]
  clear hF hS vF vS vFS vA vB vC vAB vBA vT vM vO bF bA zw zo zf gA gB gC gA2 gA3 gC1 gC2 gM gM2 gO gO2
  generalize (A3.filter fun r => decide (r.2 < 0)).isEmpty = t1 at *
  generalize (A3.filter fun r => decide (r.2 > 0)).isEmpty = t2 at *
  generalize (A3.filter fun r => decide (r.2 < 0)).map rowV = R1 at *
  generalize (A3.filter fun r => decide (r.2 > 0)).map rowV = R2 at *
  generalize (F.map fun r => (r.1, z * r.2)).map rowV = R3 at *
  generalize (F.map fun r => (r.1, - r.2)).map rowV = R4 at *
  generalize ((F.drop i).reverse ++ F.take i).map rowV = R5 at *
  generalize (F.drop i).reverse.map rowV = R6 at *
  generalize (F.drop i).map rowV = R7 at *
  generalize (F.take i).map rowV = R8 at *
  generalize (F ++ S).map rowV = R9 at *
  generalize F.map rowV = FR at *
  generalize S.map rowV = SR at *
  generalize A3.map rowV = AR at *
  generalize B.map rowV = BR at *
  generalize C2.map rowV = CR at *
  generalize M2.map rowV = MR at *
  generalize O2.map rowV = OR at *
  simp -implicitDefEqProofs [f_right, b_right, callK_of e1, callK_of e2, callK_of e3, e4, e5, callK_of e6, hff, callK_of e7, callK_of e8, callK_of e9, callK_of e10, hlen, callK_of e11, c1, c2, c3, c4, callK_of e12, callK_of e13, hpw, hmu, hsu, callK_of e14, callK_of e15, e16, h1, callK_of e17, callK_of e18, callK_of e19, h2, callK_of e20, callK_of e21, callK_of e22, callK_of e23, callK_of e24, h3, h4, h5, eq_nn, e25, e26, eq_bls, hfin, -ix_obj, -isLst_of, -bin_ll, -bin_ff]
end Nv.K13

set_option Elab.async false
set_option maxRecDepth 100000
set_option autoImplicit false
set_option linter.all false
set_option maxHeartbeats 4000000
/-! K13Law3: the law -/
namespace Nv.K13
open PySem PySem.Spec PyProof.Rows L2 V1
abbrev cellU : Sm := .cons (.set (.v 2) (.call (c "_law_pot") (.cons (.frz (.call (c "_law_cell_at") (.cons (.var 0) (.cons (.var 1) .nil)))) (.cons (.var 1) .nil)))) (.cons (.set (.v 3) (.frz (.call (c "_law_kind") (.cons (.var 2) (.cons (.int 2) (.cons (.bl false) .nil)))))) (.cons (.set (.v 4) (.frz (.call (c "_law_listed") (.cons (.var 2) (.cons (.var 3) .nil))))) (.cons (.ifs (.nt (.call (c "_law_right") (.cons (.var 2) (.cons (.var 4) (.cons (.frz (.call (c "_law_listed") (.cons (.var 2) (.cons (.var 3) .nil)))) .nil))))) (.cons (.ret (.bl false)) .nil) .nil) .nil)))
theorem pot_new {s : Sto} {a b : Int} (hs : Clo s) : PotAt 2 s.length (s ++ [.lst [.int a, .int b]]) := ⟨hs.push rfl, [a, b], rfl, mid_at⟩
theorem cell_ok {m : Nat} {ns : List Int} {s : Sto} {j : Nat} (hm : 60 ≤ m) (hs : Clo s) (hj : j ≤ 100) {o1 o2 o3 o4 : Option D} :
    ∃ (x2 x3 x4 : Option D) (s' : Sto), Clo s' ∧ ∀ F : Fl → Loc → Sto → Res RD, btK (bindT (.v 1) (.int j) [some (.lf (ns.map D.int)), o1, o2, o3, o4]) (fun l1 => sk (callN tab m) tab.gc cellU l1 s F) = F .nx [some (.lf (ns.map D.int)), some (.int j), x2, x3, x4] s' := by
  obtain ⟨z, e1⟩ := t_cell_at eV (m := m) (s := s) (ns := ns) (k := j) (by omega) hs
  obtain ⟨a, b, e2⟩ := t_pot eV (m := m) (s := s) (x := z) (k := j) (by omega) hs (by omega) (by omega)
  have hp := pot_new (a := a) (b := b) hs
  obtain ⟨k, s1, k1, k2, p1, e3⟩ := t_kind eV 2 false (by decide) (m := m) (by omega) hp
  have hp1 := p1.at_ hp
  obtain ⟨F, s2, F1, F2, p2, e4⟩ := t_listed eL (m := m) k1 (by omega) (by omega) hp1
  have hp2 := p2.at_ hp1
  obtain ⟨S, s3, S1, S2, p3, e5⟩ := t_listed eL (m := m) k1 (by omega) (by omega) hp2
  have hp3 := p3.at_ hp2
  obtain ⟨s4, p4, e6⟩ := t_right (m := m) (by omega) hp3 (by omega) F1 S1 F2 S2
  refine ⟨some (.obj s.length), some (kD k), some (.lf (F.map rowV)), s4, (p4.at_ hp3).clo, fun G => ?_⟩
  have e3 : callN tab m (c "_law_kind") [.obj s.length, .int 2, .bl false] (s ++ [.lst [.int a, .int b]]) = .ok (.d (kD k)) s1 := e3
  generalize kD k = kd at *
  generalize F.map rowV = FR at *
  generalize S.map rowV = SR at *
  generalize ns.map D.int = N at *
  simp -implicitDefEqProofs [callK_of e1, callK_of e2, callK_of e3, callK_of e4, callK_of e5, callK_of e6]
theorem law_loop {m : Nat} {ns : List Int} (hm : 60 ≤ m) : ∀ (n j : Nat) (o1 o2 o3 o4 : Option D) (s : Sto), j + n ≤ 100 → Clo s → ∃ (x1 x2 x3 x4 : Option D) (s' : Sto), Clo s' ∧ ∀ G : Fl → Loc → Sto → Res RD, forK (.v 1) none (sden (callN tab m) tab.gc cellU) (upTo j n) [some (.lf (ns.map D.int)), o1, o2, o3, o4] s G = G .nx [some (.lf (ns.map D.int)), x1, x2, x3, x4] s'
  | 0, j, o1, o2, o3, o4, s, _, hs => ⟨o1, o2, o3, o4, s, hs, fun G => for_nil (src := none) trivial⟩
  | n + 1, j, o1, o2, o3, o4, s, h, hs => by
    obtain ⟨x2, x3, x4, s1, hs1, e1⟩ := cell_ok (ns := ns) (j := j) hm hs (by omega) (o1 := o1) (o2 := o2) (o3 := o3) (o4 := o4)
    obtain ⟨y1, y2, y3, y4, s2, hs2, e2⟩ := law_loop (ns := ns) hm n (j + 1) (some (.int j)) x2 x3 x4 s1 (by omega) hs1
    refine ⟨y1, y2, y3, y4, s2, hs2, fun G => ?_⟩
    rw [upTo, for_cons (src := none) trivial, e1]
    exact e2 G
theorem holds (ns : List Int) (h : ns.length ≤ 63) : ∃ s, callN tab (199 + 1) 18 [.lf (ns.map D.int)] [] = .ok (.d (.bl true)) s := by
  have hs : Clo [] := rfl
  have hlen : ((ns.map D.int).length : Int) = ns.length := by rw [List.length_map]
  let b : Int := if (16 : Int) < ns.length then 16 else ns.length
  let q : Int := if b > 1 then b else 1
  have q1 : 0 ≤ q ∧ q ≤ 16 := by
    show 0 ≤ (if b > 1 then b else 1) ∧ (if b > 1 then b else 1) ≤ 16
    have hb : b ≤ 16 := by show (if (16 : Int) < ns.length then 16 else (ns.length : Int)) ≤ 16; split <;> omega
    split <;> omega
  have hb : (if (16 : Int) < ns.length then 16 else (ns.length : Int)) = b := rfl
  have hq : (if b > 1 then b else 1) = q := rfl
  generalize b = b at *
  generalize q = q at *
  obtain ⟨y1, y2, y3, y4, s2, hs2, e1⟩ := law_loop (ns := ns) (m := 199) (by decide) q.toNat 0 none none none none [] (by omega) hs
  have hr := range_ok (s := []) (j := q) (small_of (by omega) (by omega))
  have hf : Nv.fin 0 (.d (.bl true)) s2 = .ok (.d (.bl true)) [] := fin_any (s := []) rfl hs rfl
  refine ⟨[], ?_⟩
  rw [call_at (F := f_p_law c g) rfl rfl]
  have e1 : ∀ G : Fl → Loc → Sto → Res RD, forK (.v 1) none (sden (callN tab 199) tab.gc cellU) (upTo 0 q.toNat) [some (.lf (ns.map D.int)), none, none, none, none] [] G = G .nx [some (.lf (ns.map D.int)), y1, y2, y3, y4] s2 := e1
  have hb2 : b2R .max [] (.d (.int 1)) (.d (.int b)) = some (.d (.int q)) := by rw [max_int, hq]
  have hb1 : b2R .min [] (.d (.int ns.length)) (.d (.int 16)) = some (.d (.int b)) := by rw [min_int, hb]
  generalize ns.map D.int = N at *
  generalize upTo 0 q.toNat = U at *
  simp -implicitDefEqProofs [f_p_law, b_p_law, hlen, hb1, hb2, hr, e1, hf, -max_int, -min_int]
end Nv.K13

set_option Elab.async false
set_option linter.all false
set_option maxRecDepth 100000
set_option autoImplicit false
open PySem PySem.W PyProof.Rows
set_option maxHeartbeats 0 in
theorem PySem.Challenge.cw_nestviews_k13_papers_holds : PySem.Challenge.rw_nestviews_k13_papers.Holds := by
  w_on; o_law; k_head; (case hw => w_witness2)
  k_fill
  refine L2.walk_of (l := PySem.Challenge.rw_nestviews_k13_papers) (n := 63) (k := 200) (x := "_law_script") (CX := fun w => L2.CX (PySem.Challenge.rw_nestviews_k13_papers).prog w) (sp := fun _ => Nv.spLaw _) rfl (by decide) rfl ⟨rfl, by decide, by decide⟩ (fun w h Y => PySem.W.kIn_of Y) ?F (fun _ _ a ns hl hO hS => ⟨a, ns, rfl, Nv.sqf_only hO hS, hl, fun _ => rfl⟩) (fun _ _ _ _ _ h => Nv.cx_no h)
  case F =>
    intro w mg fa h KX G hmg
    refine Nv.law_end (n := 199) (T := Nv.K13.tab) (i := 18) ?E rfl rfl rfl hmg Nv.K13.holds
    refine' Nv.K13.all_mk KX G ?nva0 ?nvl0 ?nvc0 ?nvk0 ?nva1 ?nvl1 ?nvc1 ?nvk1 ?nva2 ?nvl2 ?nvc2 ?nvk2 ?nva3 ?nvl3 ?nvc3 ?nvk3 ?nva4 ?nvl4 ?nvc4 ?nvk4 ?nva5 ?nvl5 ?nvc5 ?nvk5 ?nva6 ?nvl6 ?nvc6 ?nvk6 ?nva7 ?nvl7 ?nvc7 ?nvk7 ?nva8 ?nvl8 ?nvc8 ?nvk8 ?nva9 ?nvl9 ?nvc9 ?nvk9 ?nva10 ?nvl10 ?nvc10 ?nvk10 ?nva11 ?nvl11 ?nvc11 ?nvk11 ?nva12 ?nvl12 ?nvc12 ?nvk12 ?nva13 ?nvl13 ?nvc13 ?nvk13 ?nva14 ?nvl14 ?nvc14 ?nvk14 ?nva15 ?nvl15 ?nvc15 ?nvk15 ?nva16 ?nvl16 ?nvc16 ?nvk16 ?nva17 ?nvl17 ?nvc17 ?nvk17 ?nva18 ?nvl18 ?nvc18 ?nvk18 ?nvz0 ?nvz1 ?nvz2 ?nvz3 ?nvz4 ?nvz5 ?nvz6 ?nvz7 ?nvz8 ?nvz9 ?nvz10 ?nvz11
    (case nva0 => k_is); (case nvl0 => k_is); (case nvc0 => k_is); (case nvk0 => k_is); (case nva1 => k_is); (case nvl1 => k_is); (case nvc1 => k_is); (case nvk1 => k_is); (case nva2 => k_is); (case nvl2 => k_is); (case nvc2 => k_is); (case nvk2 => k_is); (case nva3 => k_is); (case nvl3 => k_is); (case nvc3 => k_is); (case nvk3 => k_is); (case nva4 => k_is); (case nvl4 => k_is); (case nvc4 => k_is); (case nvk4 => k_is); (case nva5 => k_is); (case nvl5 => k_is); (case nvc5 => k_is); (case nvk5 => k_is); (case nva6 => k_is); (case nvl6 => k_is); (case nvc6 => k_is); (case nvk6 => k_is); (case nva7 => k_is); (case nvl7 => k_is); (case nvc7 => k_is); (case nvk7 => k_is); (case nva8 => k_is); (case nvl8 => k_is); (case nvc8 => k_is); (case nvk8 => k_is); (case nva9 => k_is); (case nvl9 => k_is); (case nvc9 => k_is); (case nvk9 => k_is); (case nva10 => k_is); (case nvl10 => k_is); (case nvc10 => k_is); (case nvk10 => k_is); (case nva11 => k_is); (case nvl11 => k_is); (case nvc11 => k_is); (case nvk11 => k_is); (case nva12 => k_is); (case nvl12 => k_is); (case nvc12 => k_is); (case nvk12 => k_is); (case nva13 => k_is); (case nvl13 => k_is); (case nvc13 => k_is); (case nvk13 => k_is); (case nva14 => k_is); (case nvl14 => k_is); (case nvc14 => k_is); (case nvk14 => k_is); (case nva15 => k_is); (case nvl15 => k_is); (case nvc15 => k_is); (case nvk15 => k_is); (case nva16 => k_is); (case nvl16 => k_is); (case nvc16 => k_is); (case nvk16 => k_is); (case nva17 => k_is); (case nvl17 => k_is); (case nvc17 => k_is); (case nvk17 => k_is); (case nva18 => k_is); (case nvl18 => k_is); (case nvc18 => k_is); (case nvk18 => k_is); (case nvz0 => k_is); (case nvz1 => k_is); (case nvz2 => k_is); (case nvz3 => k_is); (case nvz4 => k_is); (case nvz5 => k_is); (case nvz6 => k_is); (case nvz7 => k_is); (case nvz8 => k_is); (case nvz9 => k_is); (case nvz10 => k_is); (case nvz11 => k_is)

