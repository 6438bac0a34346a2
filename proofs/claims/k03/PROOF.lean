import PyProof.Rows.All
import KE.SortCalls
import KE.SortData
import KE.DataCmp
import HandS.ForMost
import HandS.Flow
import HandS.IsInst
import HandS.More
import KE.KDictKeyed
import KE.KDictPairs
import HandS.TupAny
import HandS.ListEq
import HandS.RaiseMore
import HandS.Style
import HandS.TupLe
import HandS.SetFor
import KE.KDictCopyH
import KE.KDictSum
import HandS.CallLocal
import HandS.Zip
import KE.GoesEnum
import HandS.Codes
import HandS.Defaults
import HandS.HeadHook2
import HandS.Ends
import PyProof.ReprLen
import OpenK.AllK
import Wide.FinOn
import HandS.ForList
import PySem.Challenge.RW_changewise_k03_whole_values_order_sums_a
set_option Elab.async false
set_option linter.all false
set_option maxRecDepth 100000
set_option maxHeartbeats 1000000
/-! Ev0a: t < u of tuples: only the first place that differs is compared. -/
namespace Ev
open PySem PySem.SeqAt PySem.W PyProof.Rows
open PySem.MeetsSeq PySem.MeetsSeq2 PySem.MeetsSeq3 PySem.SeqRoads2
open PySem.AutoSeq1 (wpAny_loadPart')
theorem range_drop {m i : Nat} (h : i < m) : (List.range m).drop i = i :: (List.range m).drop (i + 1) := by
  simp [List.drop_eq_getElem_cons, h]
theorem tuple_ltF (l b : Addr) (ps qs : Array Value) (n m : Nat) (d1 d2 : Option Addr) (k1 k2 : Array (Option Value)) (e r : Nat → Bool) :
    Meets (Builtin.«tuple.__lt__» ⟨[.ref l, .ref b], []⟩) (fun A R s =>
      s.heap.get? l = some { cls := .type "tuple", dict := d1, data := .seq ps n, slots := k1 } ∧
      s.heap.get? b = some { cls := .type "tuple", dict := d2, data := .seq qs m, slots := k2 } ∧
      (∀ j (h1 : j < ps.size) (h2 : j < qs.size), EqAt A.in1 s ps[j] qs[j] (e j)) ∧
      (∀ j (h1 : j < ps.size) (h2 : j < qs.size), (∀ k, k < j → e k = true) → e j = false → RcLt A.in1 s ps[j] qs[j] (r j)) ∧
      R (.ok (.ret (.bool (firstLt e r (decide (ps.size < qs.size)) (List.range (min ps.size qs.size)))))) s) :=
  .of_wp fun prog w A R s h => by
    obtain ⟨hp, g, d, tk, os⟩ := s
    obtain ⟨hl, hb, he, hr, h⟩ := h
    have tt := AutoSeq1.sub_tuple_tuple
    have zl : (ps.toList.zip qs.toList).length = min ps.size qs.size := by simp
    wp_walk using wpAny_loadPart' hl, wpAny_loadPart' hb, wpAny_forIn_list _ (fun rest u z => u.1 = none ∧ z = ⟨hp, g, d, tk, os⟩ ∧ ∃ i, rest = (ps.toList.zip qs.toList).drop i ∧ (∀ k, k < i → e k = true) ∧ R (.ok (.ret (.bool (firstLt e r (decide (ps.size < qs.size)) ((List.range (min ps.size qs.size)).drop i))))) ⟨hp, g, d, tk, os⟩) _
    case turn =>
      rintro ⟨y, x⟩ rest u z ⟨hu, rfl, i, hz, hi, hR⟩
      have lt : i < (ps.toList.zip qs.toList).length := by
        refine Nat.lt_of_not_le fun q => ?_
        rw [List.drop_of_length_le q] at hz; cases hz
      have im : i < min ps.size qs.size := zl ▸ lt
      have i1 : i < ps.size := by omega
      have i2 : i < qs.size := by omega
      rw [List.drop_eq_getElem_cons lt] at hz
      injection hz with hyx hrest
      obtain rfl : y = ps[i] := by simpa using congrArg Prod.fst hyx
      obtain rfl : x = qs[i] := by simpa using congrArg Prod.snd hyx
      rw [range_drop im] at hR
      refine wpAny_bind (he i i1 i2 prog w _ _ ?_)
      cases hy : e i with
      | true =>
        rw [firstLt_yes hy] at hR
        wp_walk
        exact ⟨rfl, rfl, i + 1, hrest, fun k hk => by
          by_cases q : k = i
          · rw [q]; exact hy
          · exact hi k (by omega), hR⟩
      | false =>
        rw [firstLt_no hy] at hR
        have go := hr i i1 i2 hi hy prog w
        generalize PySem.richCompare .Lt ps[i] qs[i] = c at go ⊢
        wp_walk
        refine go _ _ ?_
        wp_walk
        exact ⟨_, rfl, hR⟩
    case fin =>
      rintro ⟨u1, u2⟩ z ⟨hu, rfl, i, hz, _, hR⟩
      simp only at hu
      subst hu
      have ge : min ps.size qs.size ≤ i := by
        refine Nat.le_of_not_lt fun q => ?_
        rw [List.drop_eq_getElem_cons (zl ▸ q)] at hz; cases hz
      rw [List.drop_of_length_le (by simpa using ge)] at hR
      wp_walk
      exact ⟨_, rfl, by simpa [Builtin.Tuple.tupleCompareSizes, firstLt] using hR⟩
    case h =>
      exact ⟨rfl, rfl, 0, rfl, fun k hk => absurd hk (Nat.not_lt_zero k), by simpa using h⟩
end Ev

set_option Elab.async false
set_option linter.all false
set_option maxRecDepth 100000
set_option maxHeartbeats 1000000
/-! Ev0b: numbers, texts and tuples of these: < and sorting where the first places that differ can be compared. -/
namespace Ev
open PySem PySem.SeqAt PySem.W PyProof.Rows
mutual
/-- numbers, texts, tuples of these -/
def pur : PyData → Bool
  | .int _ => true
  | .str x => PyData.strOk x
  | .tuple xs => purs xs
  | _ => false
def purs : List PyData → Bool
  | [] => true
  | x :: r => pur x && purs r
end
mutual
/-- where they differ first they can be compared -/
def cm : PyData → PyData → Bool
  | .int _, .int _ => true
  | .str _, .str _ => true
  | .tuple xs, .tuple ys => cms xs ys
  | _, _ => false
def cms : List PyData → List PyData → Bool
  | x :: xs, y :: ys => if PyData.eqv x y then cms xs ys else cm x y
  | _, _ => true
end
mutual
theorem pur_lay : ∀ {x : PyData}, pur x = true → x.canLay0 = true
  | .int _, _ => by simp [PyData.canLay0]
  | .str x, h => by simpa [PyData.canLay0, pur] using h
  | .tuple xs, h => by simp only [PyData.canLay0]; exact purs_lay (by simpa [pur] using h)
  | .none, h => by simp [pur] at h
  | .bool _, h => by simp [pur] at h
  | .list _, h => by simp [pur] at h
  | .dict _, h => by simp [pur] at h
theorem purs_lay : ∀ {xs : List PyData}, purs xs = true → PyData.canLayAll0 xs = true
  | [], _ => by simp [PyData.canLayAll0]
  | x :: r, h => by
    simp only [purs, Bool.and_eq_true] at h
    simp only [PyData.canLayAll0, pur_lay h.1, purs_lay h.2, Bool.and_self]
end
mutual
theorem eqv_pur : ∀ {x y : PyData}, pur x = true → pur y = true → PyData.eqv x y = true → x = y
  | .int a, y, h, k, e => by
    cases y <;> simp [pur] at k <;> simp [PyData.eqv] at e
    rw [e]
  | .str a, y, h, k, e => by
    cases y <;> simp [pur] at k <;> simp [PyData.eqv] at e
    rw [e]
  | .tuple xs, y, h, k, e => by
    cases y <;> simp [pur] at k <;> simp [PyData.eqv] at e
    rw [eqvs_pur (by simpa [pur] using h) k e]
  | .none, _, h, _, _ => by simp [pur] at h
  | .bool _, _, h, _, _ => by simp [pur] at h
  | .list _, _, h, _, _ => by simp [pur] at h
  | .dict _, _, h, _, _ => by simp [pur] at h
theorem eqvs_pur : ∀ {xs ys : List PyData}, purs xs = true → purs ys = true → PyData.eqvAll xs ys = true → xs = ys
  | [], [], _, _, _ => rfl
  | [], _ :: _, _, _, e => by simp [PyData.eqvAll] at e
  | _ :: _, [], _, _, e => by simp [PyData.eqvAll] at e
  | x :: xs, y :: ys, h, k, e => by
    simp only [purs, Bool.and_eq_true] at h k
    rw [eqv_all_cons, Bool.and_eq_true] at e
    rw [eqv_pur h.1 k.1 e.1, eqvs_pur h.2 k.2 e.2]
end
mutual
theorem eqv_same : ∀ {x : PyData}, pur x = true → PyData.eqv x x = true
  | .int _, _ => by simp [PyData.eqv]
  | .str _, _ => by simp [PyData.eqv]
  | .tuple xs, h => by simp only [PyData.eqv]; exact eqvs_same (by simpa [pur] using h)
  | .none, h => by simp [pur] at h
  | .bool _, h => by simp [pur] at h
  | .list _, h => by simp [pur] at h
  | .dict _, h => by simp [pur] at h
theorem eqvs_same : ∀ {xs : List PyData}, purs xs = true → PyData.eqvAll xs xs = true
  | [], _ => by simp [PyData.eqvAll]
  | x :: xs, h => by
    simp only [purs, Bool.and_eq_true] at h
    rw [eqv_all_cons, eqv_same h.1, eqvs_same h.2]; rfl
end
theorem cm_self : ∀ {x : PyData}, pur x = true → cm x x = true
  | .int _, _ => rfl
  | .str _, _ => rfl
  | .tuple xs, h => by
    have h : purs xs = true := by simpa [pur] using h
    show cms xs xs = true
    induction xs with
    | nil => rfl
    | cons x xs ih =>
      simp only [purs, Bool.and_eq_true] at h
      simp only [cms, eqv_same h.1, if_true]
      exact ih h.2 h.2
  | .none, h => by simp [pur] at h
  | .bool _, h => by simp [pur] at h
  | .list _, h => by simp [pur] at h
  | .dict _, h => by simp [pur] at h
/-! signs -/
mutual
theorem toks_cm : ∀ {x y : PyData}, pur x = true → pur y = true → cm x y = true → PyData.eqv x y = false → ∀ l m, lexLt itemOrd (keyToks x ++ l) (keyToks y ++ m) = lexLt itemOrd (keyToks x) (keyToks y)
  | .int a, y, _, _, c, e, l, m => by
    cases y with
    | int b =>
      simp only [keyToks, List.cons_append, List.nil_append]
      exact lex_atom (fun q => by cases Sum.inl.inj q; simp [PyData.eqv] at e) l m
    | _ => simp [cm] at c
  | .str a, y, _, _, c, e, l, m => by
    cases y with
    | str b =>
      simp only [keyToks, List.cons_append, List.nil_append]
      exact lex_atom (fun q => by cases str_of_cps (Sum.inr.inj q); simp [PyData.eqv] at e) l m
    | _ => simp [cm] at c
  | .tuple xs, y, h, k, c, e, l, m => by
    cases y with
    | tuple ys =>
      simp only [keyToks]
      exact toksAll_cm (by simpa [pur] using h) (by simpa [pur] using k) (by simpa [cm] using c) (by simpa [PyData.eqv] using e) l m
    | _ => simp [cm] at c
  | .none, _, h, _, _, _, _, _ => by simp [pur] at h
  | .bool _, _, h, _, _, _, _, _ => by simp [pur] at h
  | .list _, _, h, _, _, _, _, _ => by simp [pur] at h
  | .dict _, _, h, _, _, _, _, _ => by simp [pur] at h
theorem toksAll_cm : ∀ {xs ys : List PyData}, purs xs = true → purs ys = true → cms xs ys = true → PyData.eqvAll xs ys = false → ∀ l m, lexLt itemOrd (keyToksAll xs ++ l) (keyToksAll ys ++ m) = lexLt itemOrd (keyToksAll xs) (keyToksAll ys)
  | [], [], _, _, _, e, _, _ => by simp [PyData.eqvAll] at e
  | [], y :: ys, _, _, _, _, l, m => by
    simp only [keyToksAll, List.cons_append, List.nil_append]
    rw [lex_atom (by simp), ← lex_atom (by simp) [] (keyToks y ++ keyToksAll ys)]
  | x :: xs, [], _, _, _, _, l, m => by
    simp only [keyToksAll, List.cons_append, List.nil_append]
    rw [lex_atom (by simp), ← lex_atom (by simp) (keyToks x ++ keyToksAll xs) []]
  | x :: xs, y :: ys, h, k, c, e, l, m => by
    simp only [purs, Bool.and_eq_true] at h k
    rw [eqv_all_cons] at e
    rw [toks_all_cons, toks_all_cons]
    simp only [List.cons_append, List.append_assoc]
    rw [lex_self (O := itemOrd), lex_self (O := itemOrd)]
    cases hx : PyData.eqv x y with
    | true =>
      rw [hx, Bool.true_and] at e
      simp only [cms, hx, if_true] at c
      rw [eqv_pur h.1 k.1 hx, lex_pre, lex_pre, toksAll_cm h.2 k.2 c e l m]
    | false =>
      simp only [cms, hx, Bool.false_eq_true, if_false] at c
      rw [toks_cm h.1 k.1 c hx, toks_cm h.1 k.1 c hx]
end
theorem lt_yes {x : PyData} {xs ys : List PyData} : lexLt itemOrd (keyToksAll (x :: xs)) (keyToksAll (x :: ys)) = lexLt itemOrd (keyToksAll xs) (keyToksAll ys) := by
  rw [toks_all_cons, toks_all_cons, lex_self (O := itemOrd), lex_pre]
theorem lt_no {x y : PyData} {xs ys : List PyData} (h : pur x = true) (k : pur y = true) (c : cm x y = true) (e : PyData.eqv x y = false) : lexLt itemOrd (keyToksAll (x :: xs)) (keyToksAll (y :: ys)) = dataLt x y := by
  rw [toks_all_cons, toks_all_cons, lex_self (O := itemOrd), toks_cm h k c e]; rfl
theorem first_cm : ∀ {xs ys : List PyData}, purs xs = true → purs ys = true → cms xs ys = true →
    firstLt (pairEq xs ys) (fun j => dataLt (xs.getD j .none) (ys.getD j .none)) (decide (xs.length < ys.length)) (List.range (min xs.length ys.length)) = lexLt itemOrd (keyToksAll xs) (keyToksAll ys)
  | [], [], _, _, _ => by simp [firstLt, keyToksAll, lex_irrefl]
  | [], y :: ys, _, _, _ => by
    rw [toks_all_cons]
    simp only [keyToksAll]
    rw [lex_diff (O := itemOrd) (by simp)] <;> simp [firstLt, itemLt]
  | x :: xs, [], _, _, _ => by
    rw [toks_all_cons]
    simp only [keyToksAll]
    rw [lex_diff (O := itemOrd) (by simp)] <;> simp [firstLt, itemLt]
  | x :: xs, y :: ys, h, k, c => by
    simp only [purs, Bool.and_eq_true] at h k
    have e1 : min (x :: xs).length (y :: ys).length = min xs.length ys.length + 1 := by simp only [List.length_cons]; omega
    have e2 : decide ((x :: xs).length < (y :: ys).length) = decide (xs.length < ys.length) := by simp
    rw [e1, e2, List.range_succ_eq_map]
    cases hx : PyData.eqv x y with
    | true =>
      simp only [cms, hx, if_true] at c
      rw [firstLt_yes (show pairEq (x :: xs) (y :: ys) 0 = true from hx), firstLt_map, ← eqv_pur h.1 k.1 hx, lt_yes, ← first_cm h.2 k.2 c] <;> rfl
    | false =>
      simp only [cms, hx, Bool.false_eq_true, if_false] at c
      rw [firstLt_no (show pairEq (x :: xs) (y :: ys) 0 = false from hx), lt_no h.1 k.1 c hx] <;> rfl
theorem RcLt_tup {A : Around} {s : Shared} {l b : Addr} {ps qs : Array Value} {e r : Nat → Bool} (hl : s.heap.IsTuple l ps) (hb : s.heap.IsTuple b qs) (hu : A.units < cLine)
    (he : ∀ j (h1 : j < ps.size) (h2 : j < qs.size), EqAt A.in1 s ps[j] qs[j] (e j)) (hr : ∀ j (h1 : j < ps.size) (h2 : j < qs.size), (∀ k, k < j → e k = true) → e j = false → RcLt A.in1 s ps[j] qs[j] (r j)) :
    RcLt A s (.ref l) (.ref b) (firstLt e r (decide (ps.size < qs.size)) (List.range (min ps.size qs.size))) := fun prog w E Q h => by
  obtain ⟨⟨c1, d1, dt1, k1⟩, ho, hc, n, hd⟩ := id hl
  obtain ⟨⟨c2, d2, dt2, k2⟩, ho2, hc2, m, hd2⟩ := id hb
  simp only at hc hd hc2 hd2
  subst hc hd hc2 hd2
  exact richCompare_meets_room (op := .Lt) ⟨_, ho, rfl⟩ ⟨_, ho2, rfl⟩ F.slot_tuple_lt F.entry_tuple_lt (F.args_tuple_lt_2 _ _) (tuple_ltF l b ps qs n m d1 d2 k1 k2 e r)
    ⟨ho, ho2, he, hr, (fun x => nomatch x : (Value.bool _) ≠ Value.notImplemented), h⟩ hu
mutual
/-- a < b -/
theorem rcLt_cm : ∀ {x y : PyData} {A : Around} {s : Shared} {a b : Value} {as bs : List Addr}, Reads s.heap a x as → Reads s.heap b y bs → pur x = true → pur y = true → cm x y = true → A.units + min x.depth y.depth < cLine → RcLt A s a b (dataLt x y)
  | .int i, y, A, s, a, b, as, bs, ra, rb, h, k, c, hu => by
    cases y with
    | int j => exact rcLt_alike (.int i) (.int j) A s a b as bs ra rb rfl (by simp) hu
    | _ => simp [cm] at c
  | .str i, y, A, s, a, b, as, bs, ra, rb, h, k, c, hu => by
    cases y with
    | str j => exact rcLt_alike (.str i) (.str j) A s a b as bs ra rb rfl (by simp) hu
    | _ => simp [cm] at c
  | .tuple xs, y, A, s, a, b, as, bs, ra, rb, h, k, c, hu => by
    cases y with
    | tuple ys =>
      have h : purs xs = true := by simpa [pur] using h
      have k : purs ys = true := by simpa [pur] using k
      have c : cms xs ys = true := by simpa [cm] using c
      cases ra with
      | @tuple l o vs n _ as' h1 h2 h3 h4 =>
        cases rb with
        | @tuple l' o' ws n' _ bs' k1 k2 k3 k4 =>
          have n1 : vs.size = xs.length := by simpa using ReadsAll.length _ _ _ h4
          have n2 : ws.size = ys.length := by simpa using ReadsAll.length _ _ _ k4
          rw [dataLt_tuple, ← first_cm h k c, ← n1, ← n2]
          refine RcLt_tup ⟨_, h1, h2, _, h3⟩ ⟨_, k1, k2, _, k3⟩ (room_here hu) (fun j j1 j2 => ?_) fun j j1 j2 hk hj => ?_
          · have := eqAt_readsAll xs ys A.in1 s vs.toList ws.toList _ _ h4 k4 (purs_lay h) (purs_lay k) (room_in hu) j (by simpa using j1) (by simpa using j2)
            simpa using this
          · have := rcLt_cms (A := A.in1) h4 k4 h k c (room_in hu) j (by simpa using j1) (by simpa using j2) hk hj
            simpa using this
    | _ => simp [cm] at c
  | .none, _, _, _, _, _, _, _, _, _, h, _, _, _ => by simp [pur] at h
  | .bool _, _, _, _, _, _, _, _, _, _, h, _, _, _ => by simp [pur] at h
  | .list _, _, _, _, _, _, _, _, _, _, h, _, _, _ => by simp [pur] at h
  | .dict _, _, _, _, _, _, _, _, _, _, h, _, _, _ => by simp [pur] at h
theorem rcLt_cms : ∀ {xs ys : List PyData} {A : Around} {s : Shared} {vs ws : List Value} {as bs : List Addr}, ReadsAll s.heap vs xs as → ReadsAll s.heap ws ys bs → purs xs = true → purs ys = true → cms xs ys = true → A.units + min (PyData.depthAll xs) (PyData.depthAll ys) < cLine →
    ∀ j (h1 : j < vs.length) (h2 : j < ws.length), (∀ k, k < j → pairEq xs ys k = true) → pairEq xs ys j = false → RcLt A s vs[j] ws[j] (dataLt (xs.getD j .none) (ys.getD j .none))
  | [], _, _, _, _, _, _, _, ra, _, _, _, _, _, j, h1, _, _, _ => by cases ra; exact absurd h1 (Nat.not_lt_zero _)
  | _ :: _, [], _, _, _, _, _, _, _, rb, _, _, _, _, j, _, h2, _, _ => by cases rb; exact absurd h2 (Nat.not_lt_zero _)
  | x :: xs, y :: ys, A, s, _, _, _, _, ra, rb, h, k, c, hu, j, h1, h2, hk, hj => by
    simp only [purs, Bool.and_eq_true] at h k
    cases ra with
    | cons r rs =>
      cases rb with
      | cons r' rs' =>
        cases j with
        | zero =>
          have hx : PyData.eqv x y = false := hj
          simp only [cms, hx, Bool.false_eq_true, if_false] at c
          exact rcLt_cm r r' h.1 k.1 c (room_head hu)
        | succ j =>
          have hx : PyData.eqv x y = true := hk 0 (Nat.succ_pos j)
          simp only [cms, hx, if_true] at c
          exact rcLt_cms rs rs' h.2 k.2 c (room_tail hu) j (Nat.lt_of_succ_lt_succ h1) (Nat.lt_of_succ_lt_succ h2) (fun i hi => hk (i + 1) (Nat.succ_lt_succ hi)) hj
end
/-! sorting -/
mutual
theorem reads_pur {h : Heap} : ∀ {x y : PyData} {v : Value} {as bs : List Addr}, pur x = true → pur y = true → Reads h v x as → Reads h v y bs → x = y
  | .int _, y, _, _, _, _, k, r, r' => by cases r; cases r'; rfl
  | .str _, y, _, _, _, _, k, r, r' => by cases r; cases r'; rfl
  | .tuple xs, y, _, _, _, hx, k, r, r' => by
    cases r with
    | tuple h1 h2 h3 h4 =>
      cases r' with
      | tuple k1 k2 k3 k4 =>
        rw [h1] at k1
        cases k1
        rw [h3] at k3
        injection k3 with e _
        subst e
        rw [readsAll_pur (by simpa [pur] using hx) (by simpa [pur] using k) h4 k4]
      | list k1 k2 k3 k4 => simp [pur] at k
      | dict k1 k2 k3 k4 k5 => simp [pur] at k
  | .none, _, _, _, _, hx, _, _, _ => by simp [pur] at hx
  | .bool _, _, _, _, _, hx, _, _, _ => by simp [pur] at hx
  | .list _, _, _, _, _, hx, _, _, _ => by simp [pur] at hx
  | .dict _, _, _, _, _, hx, _, _, _ => by simp [pur] at hx
theorem readsAll_pur {h : Heap} : ∀ {xs ys : List PyData} {vs : List Value} {as bs : List Addr}, purs xs = true → purs ys = true → ReadsAll h vs xs as → ReadsAll h vs ys bs → xs = ys
  | [], _, _, _, _, _, _, r, r' => by cases r; cases r'; rfl
  | x :: xs, _, _, _, _, hx, k, r, r' => by
    cases r with
    | cons a b =>
      cases r' with
      | cons a' b' =>
        simp only [purs, Bool.and_eq_true] at hx k
        rw [reads_pur hx.1 k.1 a a', readsAll_pur hx.2 k.2 b b']
end
def AllPur (ds : List PyData) : Prop := ∀ d ∈ ds, pur d = true
def AllCm (ds : List PyData) : Prop := ∀ d ∈ ds, ∀ d' ∈ ds, cm d d' = true
theorem dk_some {h : Heap} {ds : List PyData} (hp : AllPur ds) {v : Value} {d : PyData} {as : List Addr} (hd : d ∈ ds) (r : Reads h v d as) : (dataKind h ds).keyOf v = some (keyToks d) := by
  cases e : (dataKind h ds).keyOf v with
  | none =>
    exfalso
    have q : ∃ d, d ∈ ds ∧ ∃ as, Reads h v d as := ⟨d, hd, as, r⟩
    have e' : (open Classical in if q : ∃ d, d ∈ ds ∧ ∃ as, Reads h v d as then some (keyToks q.choose) else none) = none := e
    rw [dif_pos q] at e'
    cases e'
  | some k =>
    obtain ⟨d', as', h1, h2, rfl⟩ := dataKind_inv e
    rw [reads_pur (hp _ h1) (hp _ hd) h2 r] <;> rfl
section
variable {prog : Program} {w : World} {A : Around} {E : Value → Shared → Prop} {s : Shared}
def isT : PyData → Bool
  | .tuple _ => true
  | _ => false
theorem oneLt_cm {f : Bool} {x y : PyData} {a b : Value} {as bs : List Addr} {Q : Bool → Shared → Prop} (hf : f = true → isT x = false) (ra : Reads s.heap a x as) (rb : Reads s.heap b y bs) (h : pur x = true) (k : pur y = true) (c : cm x y = true)
    (hu : A.units + min x.depth y.depth < cLine) (hq : Q (dataLt x y) s) : wpAny (model prog w) A (oneLt' f a b) Q E s := by
  cases f with
  | false =>
    rw [oneLt'_eq]
    simp only [Bool.false_eq_true, if_false]
    exact wpAny_bind (rcLt_cm ra rb h k c hu prog w E _ (wpAny_truthy_bool hq))
  | true =>
    have hf := hf rfl
    cases x <;> simp [pur] at h <;> simp [isT] at hf
    · cases y <;> simp [cm] at c
      exact oneLt_alike (fun _ xs e => by cases e) ra rb rfl (by simp) hu hq
    · cases y <;> simp [cm] at c
      exact oneLt_alike (fun _ xs e => by cases e) ra rb rfl (by simp) hu hq
theorem katLex_cm {b fin : Bool} {Q : Bool → Shared → Prop} : ∀ {xs ys : List PyData} {i : Nat} {vs ws : List Value} {as bs : List Addr}, ReadsAll s.heap vs xs as → ReadsAll s.heap ws ys bs → purs xs = true → purs ys = true → cms xs ys = true →
    A.units + min (PyData.depthAll xs) (PyData.depthAll ys) < cLine → (b = true → i = 0 → ∀ x r, xs = x :: r → isT x = false) → fin = decide (xs.length < ys.length) → Q (lexLt itemOrd (keyToksAll xs) (keyToksAll ys)) s → KatLex prog w A b fin Q (vs.zip ws) i s
  | [], [], i, _, _, _, _, ra, rb, _, _, _, _, _, hf, hq => by
    cases ra; cases rb
    rw [lex_irrefl] at hq
    subst hf
    exact kat_nil hq
  | [], y :: ys, i, _, _, _, _, ra, rb, _, _, _, _, _, hf, hq => by
    cases ra
    rw [toks_all_cons] at hq
    simp only [keyToksAll] at hq
    rw [lex_diff (O := itemOrd) (by simp)] at hq
    subst hf
    rw [List.zip_nil_left]
    exact kat_nil (by simpa [itemLt] using hq)
  | x :: xs, [], i, _, _, _, _, ra, rb, _, _, _, _, _, hf, hq => by
    cases rb
    rw [toks_all_cons] at hq
    simp only [keyToksAll] at hq
    rw [lex_diff (O := itemOrd) (by simp)] at hq
    subst hf
    rw [List.zip_nil_right]
    exact kat_nil (by simpa [itemLt] using hq)
  | x :: xs, y :: ys, i, _, _, _, _, ra, rb, h, k, c, hu, hb, hf, hq => by
    simp only [purs, Bool.and_eq_true] at h k
    have hf' : fin = decide (xs.length < ys.length) := by rw [hf]; simp
    cases ra with
    | cons r rs =>
      cases rb with
      | cons r' rs' =>
        rw [List.zip_cons_cons]
        refine kat_cons (eqAt_reads x y A s _ _ _ _ r r' (pur_lay h.1) (pur_lay k.1) (room_head hu) prog w _ _ ?_)
        cases hx : PyData.eqv x y with
        | true =>
          simp only [cms, hx, if_true] at c
          rw [← eqv_pur h.1 k.1 hx, lt_yes] at hq
          exact kat_yes (katLex_cm rs rs' h.2 k.2 c (room_tail hu) (fun _ hi => absurd hi (Nat.succ_ne_zero i)) hf' hq)
        | false =>
          simp only [cms, hx, Bool.false_eq_true, if_false] at c
          rw [lt_no h.1 k.1 c hx] at hq
          refine kat_no (oneLt_cm (fun hbi => ?_) r r' h.1 k.1 c (room_head hu) hq)
          rw [Bool.and_eq_true] at hbi
          exact hb hbi.1 (by simpa using hbi.2) x xs rfl
theorem ty_cm {x y : PyData} (h : pur x = true) (k : pur y = true) (c : cm x y = true) : dataType x = dataType y := by
  cases x <;> simp [pur] at h <;> cases y <;> simp [pur] at k <;> first | rfl | (simp [cm] at c)
/-- such values can be sorted: tuples with an item all, or no tuple at all, or one at most -/
theorem sortsAt_cm {vs : List Value} {ds : List PyData} (e : EachIs (fun v d => ∃ as, Reads s.heap v d as) vs ds) (hp : AllPur ds) (hc : AllCm ds) (hk : (∀ d ∈ ds, ∃ x r, d = .tuple (x :: r)) ∨ (∀ d ∈ ds, isT d = false) ∨ ds.length ≤ 1) (hu : ∀ d, d ∈ ds → A.units + d.depth < cLine) :
    SortsAt prog w A s (dataKind s.heap ds) vs := by
  have room : ∀ {d d' : PyData}, d ∈ ds → A.units + min d.depth d'.depth < cLine := fun {d d'} hd => Nat.lt_of_le_of_lt (Nat.add_le_add_left (Nat.min_le_left _ _) _) (hu d hd)
  refine ⟨fun v hv => ?_, ?_⟩
  · obtain ⟨d, hd, as, r⟩ := e.left v hv
    exact ⟨_, dk_some hp hd r⟩
  · by_cases h1 : ds.length ≤ 1
    · refine ⟨general', ?_, fun h2 => absurd h2 (by rw [e.length]; omega)⟩
      intro E x y a b Q ha hb hq
      obtain ⟨d, as, hd, ra, rfl⟩ := dataKind_inv ha
      obtain ⟨d', as', hd', rb, rfl⟩ := dataKind_inv hb
      show wpAny _ _ (oneLt' false x y) _ _ _
      exact oneLt_cm (fun z => nomatch z) ra rb (hp d hd) (hp d' hd') (hc d hd d' hd') (room hd) hq
    · rcases hk with ht | hk | hk
      · cases ds with
        | nil => simp at h1
        | cons d₀ ds₀ =>
          obtain ⟨x₀, r₀, e₀⟩ := ht d₀ List.mem_cons_self
          have fst : ∀ x r, PyData.tuple (x :: r) ∈ d₀ :: ds₀ → dataType x = dataType x₀ := by
            intro x r hm
            have p1 : purs (x :: r) = true := by simpa [pur] using hp _ hm
            have p2 : purs (x₀ :: r₀) = true := by simpa [pur, e₀] using hp _ (List.mem_cons_self (a := d₀) (l := ds₀))
            have c1 : cms (x :: r) (x₀ :: r₀) = true := by
              have := hc _ hm _ (List.mem_cons_self (a := d₀) (l := ds₀))
              rw [e₀] at this
              simpa [cm] using this
            simp only [purs, Bool.and_eq_true] at p1 p2
            cases q : PyData.eqv x x₀ with
            | true => rw [eqv_pur p1.1 p2.1 q]
            | false =>
              simp only [cms, q, Bool.false_eq_true, if_false] at c1
              exact ty_cm p1.1 p2.1 c1
          refine ⟨tuples' (dataType x₀ != Value.type "tuple"), ?_, fun h2 E Q hq => ?_⟩
          · intro E x y a b Q ha hb hq
            obtain ⟨d, as, hd, ra, rfl⟩ := dataKind_inv ha
            obtain ⟨d', as', hd', rb, rfl⟩ := dataKind_inv hb
            have q1 := hp d hd
            have q2 := hp d' hd'
            have q3 := hc d hd d' hd'
            have q4 := room (d' := d') hd
            obtain ⟨x1, r1, rfl⟩ := ht d hd
            obtain ⟨x2, r2, rfl⟩ := ht d' hd'
            have hq' : Q (dataLt (.tuple (x1 :: r1)) (.tuple (x2 :: r2))) s := hq
            rw [dataLt_tuple] at hq'
            cases ra with
            | @tuple l o xs n _ _ h1 h2 h3 h4 =>
              cases rb with
              | @tuple l' o' xs' n' _ _ k1 k2 k3 k4 =>
                have n1 : xs.size = (x1 :: r1).length := by simpa using SeqAt.ReadsAll.length _ _ _ h4
                have n2 : xs'.size = (x2 :: r2).length := by simpa using SeqAt.ReadsAll.length _ _ _ k4
                refine kat_lt h1 h3 k1 k3 (katLex_cm h4 k4 (by simpa [pur] using q1) (by simpa [pur] using q2) (by simpa [cm] using q3) (by have q := SeqAt.room_in q4; omega) (fun hb _ x r ex => ?_) (by rw [n1, n2]) hq')
                obtain ⟨rfl, rfl⟩ := List.cons.inj ex
                rw [← fst _ _ hd] at hb
                cases x1 <;> first | rfl | (simp [dataType] at hb)
          · obtain ⟨fs, t1, t2, t3⟩ := each_katTups e ht
            refine kat_kind (T := dataType x₀) t1 (by omega) (fun f hf => ?_) (beq_self_eq_true _) hq
            obtain ⟨x, r, as, m1, m2⟩ := t3 f hf
            rw [← fst x r m1]
            exact looks_reads m2
      · refine ⟨oneType', ?_, fun h2 E Q hq => ?_⟩
        · intro E x y a b Q ha hb hq
          obtain ⟨d, as, hd, ra, rfl⟩ := dataKind_inv ha
          obtain ⟨d', as', hd', rb, rfl⟩ := dataKind_inv hb
          rw [keyLt'_oneType]
          exact oneLt_cm (fun _ => hk d hd) ra rb (hp d hd) (hp d' hd') (hc d hd d' hd') (room hd) hq
        · cases ds with
          | nil => simp at h1
          | cons d₀ ds₀ =>
            have nt : (dataType d₀ != Value.type "tuple") = true := by
              have := hk d₀ List.mem_cons_self
              exact dataType_other fun xs z => by rw [z] at this; cases this
            refine kas_kind (T := dataType d₀) h2 (fun v hv => ?_) nt (beq_self_eq_true _) hq
            obtain ⟨d, hd, as, r⟩ := e.left v hv
            rw [← ty_cm (hp d hd) (hp d₀ List.mem_cons_self) (hc d hd d₀ List.mem_cons_self)]
            exact looks_reads r
      · exact absurd hk h1
theorem sortVals_cm {β : Type} {h' : Heap} {R : Value → β → Prop} {enc : β → PyData} {vs : List Value} {bs : List β} (rev : Bool) (e : EachIs R vs bs) (er : EachIs (fun v b => ∃ as, Reads h' v (enc b) as) vs bs) (hp : AllPur (bs.map enc)) :
    EachIs R (sortVals (dataKind h' (bs.map enc)) rev vs vs) (bs.mergeSort (dataLe rev enc)) :=
  sortVals_each (κ := dataKind h' (bs.map enc)) (fun b => keyToks (enc b)) e (each_of_map enc ((each_mem (each_map (R := fun v d => ∃ as, Reads h' v d as) enc er)).mono fun _ _ ⟨⟨_, r⟩, hd⟩ => dk_some hp hd r))
end
end Ev

set_option Elab.async false
set_option linter.all false
set_option maxRecDepth 100000
set_option maxHeartbeats 1000000
/-! Ev1: own values, the memory of cells, and what they stand for in the abstract heap. -/
namespace Ev
open PySem PySem.Spec PyProof.Rows L2

inductive D where
  | non
  | bl (b : Bool)
  | int (i : Int)
  | str (s : Str)
  | tup (l : List D)
  | wtp (l : List D)
  | lst (l : List D)
  | rol (l : List D)
  | dct (l : List (D × D))
  | obj (n : Nat)
  | fn (x : Str)
  | ty (n : String)
  deriving Inhabited

inductive Cell where
  | lst (l : List D)
  | dct (l : List (D × D))
  deriving Inhabited
abbrev Mem := List Cell

/-! ### keys -/
mutual
def D.nk : D → NestedKey
  | .bl b => .num (if b then 1 else 0)
  | .int i => .num i
  | .str s => .text s
  | .tup l => .tup (nks l)
  | _ => .none
def nks : List D → List NestedKey
  | [] => []
  | d :: r => d.nk :: nks r
end
/-- leaves as keys: whole numbers and texts -/
def D.leaf : D → Bool
  | .int _ => true
  | .str _ => true
  | _ => false
mutual
def D.tkey : Nat → D → Bool
  | _, .int _ => true
  | _, .str _ => true
  | 0, _ => false
  | n + 1, .tup l => tkeys n l
  | _, _ => false
def tkeys : Nat → List D → Bool
  | _, [] => true
  | n, d :: r => d.tkey n && tkeys n r
end
def D.isTup : D → Bool
  | .tup _ => true
  | _ => false
def D.tk (d : D) : Bool := d.isTup && d.tkey 8

/-- the cells' addresses; lists that are being made (no value knows of them) -/
structure Rho where
  c : List Addr
  gh : List Addr
instance : Membership Addr Rho := ⟨fun ρ a => a ∈ ρ.c ∨ a ∈ ρ.gh⟩
theorem Rho.not_mem {ρ : Rho} {a : Addr} : a ∉ ρ ↔ a ∉ ρ.c ∧ a ∉ ρ.gh := not_or
def Rho.push (ρ : Rho) (p : Addr) : Rho := ⟨ρ.c ++ [p], ρ.gh⟩
def Rho.cut (ρ : Rho) (m : Nat) : Rho := ⟨ρ.c.take m, ρ.gh⟩
def Rho.ghost (ρ : Rho) (p : Addr) : Rho := ⟨ρ.c, p :: ρ.gh⟩
structure Gx where
  P : Program
  w : World
  K : PySem.W.Frag
  mg : Str → Option Value
def gx (X : Cx) : Gx := ⟨X.prog, X.w, X.K, X.mg⟩

/-- a tuple's object, as the rules make it -/
def tob (its : List Value) : Obj := { cls := .type "tuple", data := .seq its.toArray }
def tfz (its : List Value) (xs : List V) : HO := .frz (tob its) (.tup xs)
/-- a stands still: it is tracked and no cell; or the module's own -/
def AtT (g : Gx) (ρ : Rho) (H : Hp) (a : Addr) (xs : List V) : Prop :=
  (a ∉ ρ ∧ ∃ its : List Value, H a = some (tfz its xs)) ∨
    ∃ (o : Obj) (its : Array Value) (n : Nat), g.K.lookup a = some o ∧ o.cls = .type "tuple" ∧ o.dict = none ∧ o.data = .seq its n ∧ its.size ≤ sizeLine ∧ Vals xs its.toList
def AtL (g : Gx) (ρ : Rho) (H : Hp) (a : Addr) (xs : List V) : Prop :=
  (a ∉ ρ ∧ Rd H a (.lst xs)) ∨
    ∃ (o : Obj) (its : Array Value) (n : Nat), g.K.lookup a = some o ∧ o.cls = .type "list" ∧ o.dict = none ∧ o.data = .seq its n ∧ its.size ≤ sizeLine ∧ Vals xs its.toList
def xo (a : Addr) (o : Obj) : HO := .ext fun h => h.get? a = some o
def AtO (g : Gx) (ρ : Rho) (H : Hp) (a : Addr) (o : Obj) : Prop := (a ∉ ρ ∧ H a = some (xo a o)) ∨ g.K.lookup a = some o
theorem AtT.seq {g : Gx} {ρ : Rho} {H : Hp} {a : Addr} {xs : List V} (h : AtT g ρ H a xs) : SqT g.K H a xs := by
  rcases h with ⟨_, _, h⟩ | ⟨o, its, n, h1, h2, _, h3, h4, h5⟩
  · exact .inl (.inr ⟨_, h⟩)
  · exact .inr ⟨o, its, n, h1, h2, h3, h4, h5⟩
theorem AtL.seq {g : Gx} {ρ : Rho} {H : Hp} {a : Addr} {xs : List V} (h : AtL g ρ H a xs) : SqL g.K H a xs := by
  rcases h with h | h
  · exact .inl h.2
  · exact .inr h

/-- keys of a dict: all leaves, or all tuples; unlike ones -/
def DOk (kvs : List (D × D)) : Prop := ((∀ p ∈ kvs, p.1.leaf = true) ∨ (∀ p ∈ kvs, p.1.tk = true)) ∧ (kvs.map fun p => p.1.nk).Nodup

mutual
inductive RD (g : Gx) (ρ : Rho) (H : Hp) : D → V → Prop
  | non : RD g ρ H .non .non
  | bl (b : Bool) : RD g ρ H (.bl b) (.bl b)
  | int (i : Int) : RD g ρ H (.int i) (.int i)
  | str (s : Str) : RD g ρ H (.str s) (.str s)
  | tup {a : Addr} {vs : List V} {ds : List D} : AtT g ρ H a vs → RDs g ρ H ds vs → RD g ρ H (.tup ds) (.ref a)
  | wtp {a : Addr} {vs : List V} {ds : List D} : a ∉ ρ → H a = some (.tup vs) → RDs g ρ H ds vs → RD g ρ H (.wtp ds) (.ref a)
  | lst {a : Addr} {vs : List V} {ds : List D} : a ∉ ρ → H a = some (.lst vs) → RDs g ρ H ds vs → RD g ρ H (.lst ds) (.ref a)
  | rol {a : Addr} {vs : List V} {ds : List D} : AtL g ρ H a vs → RDs g ρ H ds vs → RD g ρ H (.rol ds) (.ref a)
  | dct {a : Addr} {o : Obj} {es : Array DictEntry} {ep : Nat} {kvs : List (D × D)} : AtO g ρ H a o → (a == sysModules) = false → o.ExactDict → o.data = .dict es ep → DOk kvs → RDe g ρ H kvs es.toList → RD g ρ H (.dct kvs) (.ref a)
  | obj {n : Nat} {a : Addr} : ρ.c[n]? = some a → RD g ρ H (.obj n) (.ref a)
  | fn {x : Str} {f : Addr} : g.mg x = some (.ref f) → PySem.W.keepIn g.K (.ref f) = true → RD g ρ H (.fn x) (.ref f)
  | ty (n : String) : RD g ρ H (.ty n) (.ty n)
inductive RDs (g : Gx) (ρ : Rho) (H : Hp) : List D → List V → Prop
  | nil : RDs g ρ H [] []
  | cons {d : D} {v : V} {ds : List D} {vs : List V} : RD g ρ H d v → RDs g ρ H ds vs → RDs g ρ H (d :: ds) (v :: vs)
inductive RDe (g : Gx) (ρ : Rho) (H : Hp) : List (D × D) → List DictEntry → Prop
  | nil : RDe g ρ H [] []
  | cons {k v : D} {e : DictEntry} {vk vv : V} {kvs : List (D × D)} {es : List DictEntry} : RD g ρ H k vk → RelV vk e.key → e.hash = k.nk.hash g.w → RD g ρ H v vv → RelV vv e.val →
      RDe g ρ H kvs es → RDe g ρ H ((k, v) :: kvs) (e :: es)
end

/-- all that stands still stays; the cells stay the cells -/
structure ExtW (ρ : Rho) (H : Hp) (ρ' : Rho) (H' : Hp) : Prop where
  keep : ∀ a o, H a = some o → a ∉ ρ → H' a = some o ∧ a ∉ ρ'
  pre : ρ.c <+: ρ'.c
/-- and the lists that are being made are not touched -/
structure Ext (ρ : Rho) (H : Hp) (ρ' : Rho) (H' : Hp) : Prop extends ExtW ρ H ρ' H' where
  gh : ρ'.gh = ρ.gh
  gk : ∀ a ∈ ρ.gh, H' a = H a
theorem ExtW.refl (ρ : Rho) (H : Hp) : ExtW ρ H ρ H := ⟨fun _ _ h n => ⟨h, n⟩, List.prefix_refl _⟩
theorem ExtW.trans {ρ ρ' ρ'' : Rho} {H H' H'' : Hp} (a : ExtW ρ H ρ' H') (b : ExtW ρ' H' ρ'' H'') : ExtW ρ H ρ'' H'' :=
  ⟨fun x o h n => let ⟨h1, n1⟩ := a.keep x o h n; b.keep x o h1 n1, a.pre.trans b.pre⟩
theorem Ext.refl (ρ : Rho) (H : Hp) : Ext ρ H ρ H := ⟨.refl _ _, rfl, fun _ _ => rfl⟩
theorem Ext.trans {ρ ρ' ρ'' : Rho} {H H' H'' : Hp} (a : Ext ρ H ρ' H') (b : Ext ρ' H' ρ'' H'') : Ext ρ H ρ'' H'' :=
  ⟨a.toExtW.trans b.toExtW, b.gh.trans a.gh, fun x h => (b.gk x (by rw [a.gh]; exact h)).trans (a.gk x h)⟩
section
variable {g : Gx} {ρ ρ' : Rho} {H H' : Hp}
theorem AtT.extW {a : Addr} {xs : List V} (e : ExtW ρ H ρ' H') (h : AtT g ρ H a xs) : AtT g ρ' H' a xs := by
  rcases h with ⟨n, its, h⟩ | h
  · obtain ⟨h1, n1⟩ := e.keep _ _ h n; exact .inl ⟨n1, its, h1⟩
  · exact .inr h
theorem AtL.extW {a : Addr} {xs : List V} (e : ExtW ρ H ρ' H') (h : AtL g ρ H a xs) : AtL g ρ' H' a xs := by
  rcases h with ⟨n, h | ⟨o, h⟩⟩ | h
  · obtain ⟨h1, n1⟩ := e.keep _ _ h n; exact .inl ⟨n1, .inl h1⟩
  · obtain ⟨h1, n1⟩ := e.keep _ _ h n; exact .inl ⟨n1, .inr ⟨o, h1⟩⟩
  · exact .inr h
theorem AtO.extW {a : Addr} {o : Obj} (e : ExtW ρ H ρ' H') (h : AtO g ρ H a o) : AtO g ρ' H' a o := by
  rcases h with ⟨n, h⟩ | h
  · obtain ⟨h1, n1⟩ := e.keep _ _ h n; exact .inl ⟨n1, h1⟩
  · exact .inr h
theorem pre_get {ρ ρ' : List Addr} (h : ρ <+: ρ') {n : Nat} {a : Addr} (e : ρ[n]? = some a) : ρ'[n]? = some a := by
  obtain ⟨t, rfl⟩ := h
  rw [List.getElem?_append_left (List.getElem?_eq_some_iff.mp e).1]; exact e
mutual
theorem RD.extW (e : ExtW ρ H ρ' H') : ∀ {d : D} {v : V}, RD g ρ H d v → RD g ρ' H' d v
  | _, _, .non => .non
  | _, _, .bl b => .bl b
  | _, _, .int i => .int i
  | _, _, .str s => .str s
  | _, _, .tup h r => .tup (h.extW e) (RDs.extW e r)
  | _, _, .wtp n h r => .wtp (e.keep _ _ h n).2 (e.keep _ _ h n).1 (RDs.extW e r)
  | _, _, .lst n h r => .lst (e.keep _ _ h n).2 (e.keep _ _ h n).1 (RDs.extW e r)
  | _, _, .rol h r => .rol (h.extW e) (RDs.extW e r)
  | _, _, .dct h z a b c r => .dct (h.extW e) z a b c (RDe.extW e r)
  | _, _, .obj h => .obj (pre_get e.pre h)
  | _, _, .fn h k => .fn h k
  | _, _, .ty n => .ty n
theorem RDs.extW (e : ExtW ρ H ρ' H') : ∀ {d : List D} {v : List V}, RDs g ρ H d v → RDs g ρ' H' d v
  | _, _, .nil => .nil
  | _, _, .cons a b => .cons (RD.extW e a) (RDs.extW e b)
theorem RDe.extW (e : ExtW ρ H ρ' H') : ∀ {d : List (D × D)} {v : List DictEntry}, RDe g ρ H d v → RDe g ρ' H' d v
  | _, _, .nil => .nil
  | _, _, .cons a b c d f r => .cons (RD.extW e a) b c (RD.extW e d) f (RDe.extW e r)
end
theorem RDs.length : ∀ {ds : List D} {vs : List V}, RDs g ρ H ds vs → ds.length = vs.length
  | _, _, .nil => rfl
  | _, _, .cons _ r => congrArg Nat.succ r.length
theorem RDs.append : ∀ {ds es : List D} {vs us : List V}, RDs g ρ H ds vs → RDs g ρ H es us → RDs g ρ H (ds ++ es) (vs ++ us)
  | _, _, _, _, .nil, q => q
  | _, _, _, _, .cons a r, q => .cons a (r.append q)
theorem RDs.take : ∀ {ds : List D} {vs : List V} (n : Nat), RDs g ρ H ds vs → RDs g ρ H (ds.take n) (vs.take n)
  | _, _, 0, _ => by simpa using .nil
  | _, _, _ + 1, .nil => .nil
  | _, _, n + 1, .cons a r => .cons a (r.take n)
theorem RDs.drop : ∀ {ds : List D} {vs : List V} (n : Nat), RDs g ρ H ds vs → RDs g ρ H (ds.drop n) (vs.drop n)
  | _, _, 0, r => r
  | _, _, _ + 1, .nil => .nil
  | _, _, n + 1, .cons a r => r.drop n
theorem RDs.get : ∀ {ds : List D} {vs : List V} {i : Nat} {d : D}, RDs g ρ H ds vs → ds[i]? = some d → ∃ v, vs[i]? = some v ∧ RD g ρ H d v
  | _, _, _, _, .nil, e => by simp at e
  | _, _, 0, _, .cons a _, e => by simp at e; subst e; exact ⟨_, rfl, a⟩
  | _, _, i + 1, _, .cons _ r, e => by
    obtain ⟨v, h1, h2⟩ := r.get (i := i) (by simpa using e)
    exact ⟨v, by simpa using h1, h2⟩
theorem RDs.getV : ∀ {ds : List D} {vs : List V} {i : Nat} {v : V}, RDs g ρ H ds vs → vs[i]? = some v → ∃ d, ds[i]? = some d ∧ RD g ρ H d v
  | _, _, _, _, .nil, e => by simp at e
  | _, _, 0, _, .cons a _, e => by simp at e; subst e; exact ⟨_, rfl, a⟩
  | _, _, i + 1, _, .cons _ r, e => by
    obtain ⟨v, h1, h2⟩ := r.getV (i := i) (by simpa using e)
    exact ⟨v, by simpa using h1, h2⟩
theorem RDs.set : ∀ {ds : List D} {vs : List V} (i : Nat) {d : D} {v : V}, RDs g ρ H ds vs → RD g ρ H d v → RDs g ρ H (ds.set i d) (vs.set i v)
  | _, _, _, _, _, .nil, _ => by simpa using .nil
  | _, _, 0, _, _, .cons _ r, q => .cons q r
  | _, _, i + 1, _, _, .cons a r, q => .cons a (r.set i q)
theorem RDs.reverse : ∀ {ds : List D} {vs : List V}, RDs g ρ H ds vs → RDs g ρ H ds.reverse vs.reverse
  | _, _, .nil => .nil
  | _, _, .cons a r => by rw [List.reverse_cons, List.reverse_cons]; exact r.reverse.append (.cons a .nil)
end

section
variable {g : Gx} {ρ ρ' : Rho} {H H' : Hp}
theorem AtT.ext (e : Ext ρ H ρ' H') {a : Addr} {xs : List V} (h : AtT g ρ H a xs) : AtT g ρ' H' a xs := h.extW e.toExtW
theorem AtL.ext (e : Ext ρ H ρ' H') {a : Addr} {xs : List V} (h : AtL g ρ H a xs) : AtL g ρ' H' a xs := h.extW e.toExtW
theorem AtO.ext (e : Ext ρ H ρ' H') {a : Addr} {o : Obj} (h : AtO g ρ H a o) : AtO g ρ' H' a o := h.extW e.toExtW
theorem RD.ext (e : Ext ρ H ρ' H') {d : D} {v : V} (h : RD g ρ H d v) : RD g ρ' H' d v := h.extW e.toExtW
theorem RDs.ext (e : Ext ρ H ρ' H') {d : List D} {v : List V} (h : RDs g ρ H d v) : RDs g ρ' H' d v := h.extW e.toExtW
theorem RDe.ext (e : Ext ρ H ρ' H') {d : List (D × D)} {v : List DictEntry} (h : RDe g ρ H d v) : RDe g ρ' H' d v := h.extW e.toExtW
end
/-! ### refs of a value: all below m -/
mutual
def D.und (m : Nat) : D → Bool
  | .obj n => decide (n < m)
  | .tup l => unds m l
  | .wtp l => unds m l
  | .lst l => unds m l
  | .rol l => unds m l
  | .dct l => unde m l
  | _ => true
def unds (m : Nat) : List D → Bool
  | [] => true
  | d :: r => d.und m && unds m r
def unde (m : Nat) : List (D × D) → Bool
  | [] => true
  | (k, v) :: r => k.und m && v.und m && unde m r
end
def Cell.und (m : Nat) : Cell → Bool
  | .lst l => unds m l
  | .dct l => unde m l
section
variable {g : Gx} {ρ : Rho} {H : Hp}
mutual
theorem RD.belowC : ∀ {d : D} {v : V}, RD g ρ H d v → d.und ρ.c.length = true
  | _, _, .non => rfl
  | _, _, .bl b => rfl
  | _, _, .int i => rfl
  | _, _, .str s => rfl
  | _, _, .tup h r => by simp only [D.und]; exact RDs.belowC r
  | _, _, .wtp n h r => by simp only [D.und]; exact RDs.belowC r
  | _, _, .lst n h r => by simp only [D.und]; exact RDs.belowC r
  | _, _, .rol h r => by simp only [D.und]; exact RDs.belowC r
  | _, _, .dct h z a b c r => by simp only [D.und]; exact RDe.belowC r
  | _, _, .obj h => by simp only [D.und, decide_eq_true_eq]; exact (List.getElem?_eq_some_iff.mp h).1
  | _, _, .fn h k => rfl
  | _, _, .ty n => rfl
theorem RDs.belowC : ∀ {d : List D} {v : List V}, RDs g ρ H d v → unds ρ.c.length d = true
  | _, _, .nil => rfl
  | _, _, .cons a b => by simp only [unds, Bool.and_eq_true]; exact ⟨RD.belowC a, RDs.belowC b⟩
theorem RDe.belowC : ∀ {d : List (D × D)} {v : List DictEntry}, RDe g ρ H d v → unde ρ.c.length d = true
  | _, _, .nil => rfl
  | _, _, .cons a b c d f r => by simp only [unde, Bool.and_eq_true]; exact ⟨⟨RD.belowC a, RD.belowC d⟩, RDe.belowC r⟩
end
end
/-! ### the memory stands for the heap -/
def CellOk (g : Gx) (ρ : Rho) (H : Hp) (a : Addr) : Cell → Prop
  | .lst ds => ∃ vs, H a = some (.lst vs) ∧ RDs g ρ H ds vs
  | .dct kvs => ∃ (o : Obj) (es : Array DictEntry) (ep : Nat), H a = some (xo a o) ∧ (a == sysModules) = false ∧ o.ExactDict ∧ o.data = .dict es ep ∧ DOk kvs ∧ RDe g ρ H kvs es.toList
theorem unds_all {m : Nat} : ∀ {l : List D}, unds m l = l.all (·.und m)
  | [] => rfl
  | d :: r => by simp only [unds, List.all_cons, unds_all]
theorem unds_append {m : Nat} {a b : List D} (h : unds m a = true) (k : unds m b = true) : unds m (a ++ b) = true := by
  rw [unds_all] at *
  rw [List.all_append, h, k]; rfl
theorem unds_set {m : Nat} {a : List D} (h : unds m a = true) {x : D} (k : x.und m = true) (j : Nat) : unds m (a.set j x) = true := by
  rw [unds_all, List.all_eq_true] at *
  intro y hy
  rcases List.mem_or_eq_of_mem_set hy with q | q
  · exact h y q
  · rw [q]; exact k
structure Rep (g : Gx) (ρ : Rho) (M : Mem) (H : Hp) : Prop where
  len : ρ.c.length = M.length
  nd : ρ.c.Nodup
  cell : ∀ (n : Nat) (a : Addr) (c : Cell), ρ.c[n]? = some a → M[n]? = some c → CellOk g ρ H a c
  gh : ∀ a ∈ ρ.gh, a ∉ ρ.c ∧ ∃ o, H a = some o
  un : ∀ (n : Nat) (c : Cell), M[n]? = some c → c.und n = true
section
variable {g : Gx} {ρ ρ' : Rho} {H H' : Hp} {M M' : Mem}
theorem CellOk.some {a : Addr} {c : Cell} (h : CellOk g ρ H a c) : ∃ o, H a = some o := by
  cases c with
  | lst ds => obtain ⟨vs, h, _⟩ := h; exact ⟨_, h⟩
  | dct kvs => obtain ⟨o, es, ep, h, _⟩ := h; exact ⟨_, h⟩
theorem Rep.at_ (r : Rep g ρ M H) {n : Nat} {a : Addr} (h : ρ.c[n]? = some a) : ∃ c, M[n]? = some c ∧ CellOk g ρ H a c := by
  have hl : n < M.length := by rw [← r.len]; exact (List.getElem?_eq_some_iff.mp h).1
  exact ⟨M[n], by simp [hl], r.cell n a _ h (by simp [hl])⟩
theorem Rep.mem (r : Rep g ρ M H) {a : Addr} (h : a ∈ ρ) : ∃ o, H a = some o := by
  rcases h with h | h
  · obtain ⟨n, hn⟩ := List.mem_iff_getElem?.mp h
    obtain ⟨c, _, hc⟩ := r.at_ hn
    exact hc.some
  · exact (r.gh a h).2
theorem Rep.fresh (r : Rep g ρ M H) {a : Addr} (h : H a = none) : a ∉ ρ := fun q => by
  obtain ⟨o, e⟩ := r.mem q
  rw [h] at e; cases e
theorem mem_c {n : Nat} {a : Addr} (h : ρ.c[n]? = some a) : a ∈ ρ := .inl (List.mem_of_getElem? h)
theorem Rep.ne (r : Rep g ρ M H) {a p : Addr} (h : a ∈ ρ) (hp : H p = none) : a ≠ p := fun q => by
  obtain ⟨u, e⟩ := r.mem h; rw [q, hp] at e; cases e
/-- a new object that is no cell -/
theorem Ext.new {o : HO} {p : Addr} (r : Rep g ρ M H) (h : H p = none) : Ext ρ H ρ (upd H p o) :=
  ⟨⟨fun a u e n => ⟨by rw [upd_ne (ne_of_none e h)]; exact e, n⟩, List.prefix_refl _⟩, rfl, fun a ha => upd_ne (r.ne (.inr ha) h)⟩
theorem CellOk.extW {a : Addr} {c : Cell} (e : ExtW ρ H ρ' H') (k : H' a = H a) (h : CellOk g ρ H a c) : CellOk g ρ' H' a c := by
  cases c with
  | lst ds => obtain ⟨vs, h, r⟩ := h; exact ⟨vs, by rw [k]; exact h, r.extW e⟩
  | dct kvs => obtain ⟨o, es, ep, h, z, a, b, c, r⟩ := h; exact ⟨o, es, ep, by rw [k]; exact h, z, a, b, c, r.extW e⟩
theorem Rep.new {o : HO} {p : Addr} (r : Rep g ρ M H) (h : H p = none) : Rep g ρ M (upd H p o) :=
  ⟨r.len, r.nd, fun n a c h1 h2 => (r.cell n a c h1 h2).extW (Ext.new r h).toExtW (upd_ne (r.ne (mem_c h1) h)),
    fun a ha => ⟨(r.gh a ha).1, by rw [upd_ne (r.ne (.inr ha) h)]; exact (r.gh a ha).2⟩, r.un⟩
/-- a new cell -/
theorem Ext.cell {o : HO} {p : Addr} (r : Rep g ρ M H) (h : H p = none) : Ext ρ H (ρ.push p) (upd H p o) :=
  ⟨⟨fun a u e n => ⟨by rw [upd_ne (ne_of_none e h)]; exact e, fun q => by
    rcases q with q | q
    · rcases List.mem_append.mp q with q | q
      · exact n (.inl q)
      · rw [List.mem_singleton] at q; rw [q, h] at e; cases e
    · exact n (.inr q)⟩, List.prefix_append _ _⟩, rfl, fun a ha => upd_ne (r.ne (.inr ha) h)⟩
theorem Rep.push {o : HO} {p : Addr} {c : Cell} (r : Rep g ρ M H) (h : H p = none) (hc : CellOk g (ρ.push p) (upd H p o) p c) (hu : c.und M.length = true) : Rep g (ρ.push p) (M ++ [c]) (upd H p o) := by
  refine ⟨by simp [Rho.push, r.len], List.nodup_append.mpr ⟨r.nd, by simp, fun a ha b hb => ?_⟩, fun n a c' h1 h2 => ?_, fun a ha => ⟨fun q => ?_, by rw [upd_ne (r.ne (.inr ha) h)]; exact (r.gh a ha).2⟩, fun n c' h2 => ?_⟩
  · rw [List.mem_singleton] at hb; subst hb; rintro rfl; exact r.fresh h (.inl ha)
  · have h1 : (ρ.c ++ [p])[n]? = some a := h1
    by_cases hn : n < ρ.c.length
    · rw [List.getElem?_append_left hn] at h1
      rw [List.getElem?_append_left (by rw [← r.len]; exact hn)] at h2
      exact (r.cell n a c' h1 h2).extW (Ext.cell r h).toExtW (upd_ne (r.ne (mem_c h1) h))
    · have h3 : n = ρ.c.length := by
        have := (List.getElem?_eq_some_iff.mp h1).1
        simp at this; omega
      subst h3
      rw [List.getElem?_append_right (Nat.le_refl _)] at h1
      rw [r.len, List.getElem?_append_right (Nat.le_refl _)] at h2
      simp at h1 h2
      subst h1; subst h2
      exact hc
  · rcases List.mem_append.mp (show a ∈ ρ.c ++ [p] from q) with q | q
    · exact (r.gh a ha).1 q
    · rw [List.mem_singleton] at q; exact r.ne (.inr ha) h q
  · by_cases hn : n < M.length
    · rw [List.getElem?_append_left hn] at h2
      exact r.un n c' h2
    · have h3 : n = M.length := by
        have := (List.getElem?_eq_some_iff.mp h2).1
        simp at this; omega
      subst h3
      rw [List.getElem?_append_right (Nat.le_refl _)] at h2
      simp at h2
      subst h2; exact hu
/-- a cell is written -/
theorem Ext.write {o : HO} {n : Nat} {p : Addr} (r : Rep g ρ M H) (h : ρ.c[n]? = some p) : Ext ρ H ρ (upd H p o) :=
  ⟨⟨fun a u e n => ⟨by rw [upd_ne (fun q => n (by rw [q]; exact mem_c h))]; exact e, n⟩, List.prefix_refl _⟩, rfl, fun a ha => upd_ne fun q => (r.gh a ha).1 (by rw [q]; exact List.mem_of_getElem? h)⟩
theorem Rep.write {o : HO} {n : Nat} {p : Addr} {c : Cell} (r : Rep g ρ M H) (h : ρ.c[n]? = some p) (hc : CellOk g ρ (upd H p o) p c) (hu : c.und n = true) : Rep g ρ (M.set n c) (upd H p o) := by
  refine ⟨by simp [r.len], r.nd, fun m a c' h1 h2 => ?_, fun a ha => ⟨(r.gh a ha).1, by rw [(Ext.write (o := o) r h).gk a ha]; exact (r.gh a ha).2⟩, fun m c' h2 => ?_⟩
  rotate_left
  · by_cases hm : m = n
    · subst hm
      have hl : m < M.length := by rw [← r.len]; exact (List.getElem?_eq_some_iff.mp h).1
      rw [List.getElem?_set_self hl] at h2; cases h2
      exact hu
    · rw [List.getElem?_set_ne (Ne.symm hm)] at h2
      exact r.un m c' h2
  by_cases hm : m = n
  · subst hm
    rw [h] at h1; cases h1
    have hl : m < M.length := by rw [← r.len]; exact (List.getElem?_eq_some_iff.mp h).1
    rw [List.getElem?_set_self hl] at h2; cases h2
    exact hc
  · rw [List.getElem?_set_ne (Ne.symm hm)] at h2
    refine (r.cell m a c' h1 h2).extW (Ext.write r h).toExtW (upd_ne fun q => hm ?_)
    rw [q] at h1
    have e1 : ρ.c[m]'(List.getElem?_eq_some_iff.mp h1).1 = p := (List.getElem?_eq_some_iff.mp h1).2
    have e2 : ρ.c[n]'(List.getElem?_eq_some_iff.mp h).1 = p := (List.getElem?_eq_some_iff.mp h).2
    exact (List.getElem_inj r.nd).mp (e1.trans e2.symm)
/-- a list begins to be made, goes on, is made -/
theorem ExtW.ghost {o : HO} {p : Addr} (h : H p = none) : ExtW ρ H (ρ.ghost p) (upd H p o) :=
  ⟨fun a u e n => ⟨by rw [upd_ne (ne_of_none e h)]; exact e, fun q => by
    rcases q with q | q
    · exact n (.inl q)
    · rcases List.mem_cons.mp q with q | q
      · rw [q, h] at e; cases e
      · exact n (.inr q)⟩, List.prefix_refl _⟩
theorem Rep.ghost {o : HO} {p : Addr} (r : Rep g ρ M H) (h : H p = none) : Rep g (ρ.ghost p) M (upd H p o) := by
  refine ⟨r.len, r.nd, fun n a c h1 h2 => (r.cell n a c h1 h2).extW (ExtW.ghost h) (upd_ne (r.ne (mem_c (ρ := ρ) h1) h)), fun a ha => ?_, r.un⟩
  rcases List.mem_cons.mp ha with rfl | ha
  · exact ⟨fun q => r.fresh h (.inl q), o, upd_same⟩
  · exact ⟨(r.gh a ha).1, by rw [upd_ne (r.ne (.inr ha) h)]; exact (r.gh a ha).2⟩
theorem ExtW.turn {o : HO} {p : Addr} (h : p ∈ ρ.gh) : ExtW ρ H ρ (upd H p o) :=
  ⟨fun a u e n => ⟨by rw [upd_ne (fun q => n (by rw [q]; exact .inr h))]; exact e, n⟩, List.prefix_refl _⟩
theorem Rep.turn {o : HO} {p : Addr} (r : Rep g ρ M H) (h : p ∈ ρ.gh) : Rep g ρ M (upd H p o) := by
  refine ⟨r.len, r.nd, fun n a c h1 h2 => (r.cell n a c h1 h2).extW (ExtW.turn h) (upd_ne fun q => (r.gh p h).1 (by rw [← q]; exact List.mem_of_getElem? h1)), fun a ha => ⟨(r.gh a ha).1, ?_⟩, r.un⟩
  by_cases e : a = p
  · subst e; exact ⟨o, upd_same⟩
  · rw [upd_ne e]; exact (r.gh a ha).2
theorem ExtW.made {p : Addr} : ExtW (ρ.ghost p) H ρ H :=
  ⟨fun a u e n => ⟨e, fun q => n (by rcases q with q | q; exact .inl q; exact .inr (List.mem_cons_of_mem _ q))⟩, List.prefix_refl _⟩
theorem Rep.made {p : Addr} (r : Rep g (ρ.ghost p) M H) : Rep g ρ M H :=
  ⟨r.len, r.nd, fun n a c h1 h2 => (r.cell n a c h1 h2).extW ExtW.made rfl, fun a ha => r.gh a (List.mem_cons_of_mem _ ha), r.un⟩
end

theorem take_get {ρ : Rho} {m n : Nat} {a : Addr} (h : ρ.c[n]? = some a) (hn : n < m) : (ρ.cut m).c[n]? = some a := by
  show (ρ.c.take m)[n]? = _
  rw [List.getElem?_take_of_lt hn]; exact h
section
variable {g : Gx} {ρ : Rho} {H : Hp}
theorem AtT.shrink {a : Addr} {xs : List V} (m : Nat) (h : AtT g ρ H a xs) : AtT g (ρ.cut m) H a xs := by
  rcases h with ⟨n, h⟩ | h
  · exact .inl ⟨fun q => n (by rcases q with q | q; exact .inl (List.mem_of_mem_take q); exact .inr q), h⟩
  · exact .inr h
theorem AtL.shrink {a : Addr} {xs : List V} (m : Nat) (h : AtL g ρ H a xs) : AtL g (ρ.cut m) H a xs := by
  rcases h with ⟨n, h⟩ | h
  · exact .inl ⟨fun q => n (by rcases q with q | q; exact .inl (List.mem_of_mem_take q); exact .inr q), h⟩
  · exact .inr h
theorem AtO.shrink {a : Addr} {o : Obj} (m : Nat) (h : AtO g ρ H a o) : AtO g (ρ.cut m) H a o := by
  rcases h with ⟨n, h⟩ | h
  · exact .inl ⟨fun q => n (by rcases q with q | q; exact .inl (List.mem_of_mem_take q); exact .inr q), h⟩
  · exact .inr h
mutual
theorem RD.shrink (m : Nat) : ∀ {d : D} {v : V}, RD g ρ H d v → d.und m = true → RD g (ρ.cut m) H d v
  | _, _, .non, _ => .non
  | _, _, .bl b, _ => .bl b
  | _, _, .int i, _ => .int i
  | _, _, .str s, _ => .str s
  | _, _, .tup h r, e => .tup (h.shrink m) (RDs.shrink m r (by simpa only [D.und] using e))
  | _, _, .wtp n h r, e => .wtp (fun q => n (by rcases q with q | q; exact .inl (List.mem_of_mem_take q); exact .inr q)) h (RDs.shrink m r (by simpa only [D.und] using e))
  | _, _, .lst n h r, e => .lst (fun q => n (by rcases q with q | q; exact .inl (List.mem_of_mem_take q); exact .inr q)) h (RDs.shrink m r (by simpa only [D.und] using e))
  | _, _, .rol h r, e => .rol (h.shrink m) (RDs.shrink m r (by simpa only [D.und] using e))
  | _, _, .dct h z a b c r, e => .dct (h.shrink m) z a b c (RDe.shrink m r (by simpa only [D.und] using e))
  | _, _, .obj h, e => .obj (take_get h (by simpa [D.und] using e))
  | _, _, .fn h k, _ => .fn h k
  | _, _, .ty n, _ => .ty n
theorem RDs.shrink (m : Nat) : ∀ {d : List D} {v : List V}, RDs g ρ H d v → unds m d = true → RDs g (ρ.cut m) H d v
  | _, _, .nil, _ => .nil
  | _, _, .cons a b, e => by
    simp only [unds, Bool.and_eq_true] at e
    exact .cons (RD.shrink m a e.1) (RDs.shrink m b e.2)
theorem RDe.shrink (m : Nat) : ∀ {d : List (D × D)} {v : List DictEntry}, RDe g ρ H d v → unde m d = true → RDe g (ρ.cut m) H d v
  | _, _, .nil, _ => .nil
  | _, _, .cons a b c d f r, e => by
    simp only [unde, Bool.and_eq_true] at e
    exact .cons (RD.shrink m a e.1.1) b c (RD.shrink m d e.1.2) f (RDe.shrink m r e.2)
end
end
end Ev

set_option Elab.async false
set_option linter.all false
set_option maxRecDepth 100000
set_option maxHeartbeats 1000000
/-! Ev2: the core language and what its texts compute. -/
namespace Ev
open PySem PySem.Spec PyProof.Rows L2

inductive Res (α : Type) where
  | ok (a : α) (M : Mem)
  | exc (e : D) (M : Mem)
  | bad
def Res.bind {α β : Type} (r : Res α) (f : α → Mem → Res β) : Res β := match r with
  | .ok a M => f a M
  | .exc e M => .exc e M
  | .bad => .bad
@[simp] theorem Res.bind_ok {α β : Type} (a : α) (M : Mem) (f : α → Mem → Res β) : (Res.ok a M).bind f = f a M := Eq.trans rfl rfl
@[simp] theorem Res.bind_exc {α β : Type} (e : D) (M : Mem) (f : α → Mem → Res β) : (Res.exc e M).bind f = .exc e M := rfl
@[simp] theorem Res.bind_bad {α β : Type} (f : α → Mem → Res β) : (Res.bad).bind f = .bad := rfl
theorem Res.bind_assoc {α β γ : Type} (r : Res α) (f : α → Mem → Res β) (k : β → Mem → Res γ) : (r.bind f).bind k = r.bind fun a M => (f a M).bind k := by cases r <;> rfl

abbrev LIM : Nat := 1000000

/-! ### built-in operations -/
def seqOf (M : Mem) : D → Option (List D)
  | .tup l => some l
  | .lst l => some l
  | .rol l => some l
  | .obj n => match M[n]? with
    | some (.lst l) => some l
    | _ => none
  | _ => none
def lstOf (M : Mem) : D → Option (List D)
  | .lst l => some l
  | .obj n => match M[n]? with
    | some (.lst l) => some l
    | _ => none
  | _ => none
def lrOf (M : Mem) : D → Option (List D)
  | .lst l => some l
  | .rol l => some l
  | .obj n => match M[n]? with
    | some (.lst l) => some l
    | _ => none
  | _ => none
def dctOf (M : Mem) : D → Option (List (D × D))
  | .dct l => some l
  | .obj n => match M[n]? with
    | some (.dct l) => some l
    | _ => none
  | _ => none
def truth (M : Mem) : D → Option Bool
  | .non => some false
  | .bl b => some b
  | .int i => some (i != 0)
  | .str s => if s.length ≤ LIM then some (s.length != 0) else none
  | .tup l => some !l.isEmpty
  | .lst l => some !l.isEmpty
  | .rol l => some !l.isEmpty
  | .obj n => match M[n]? with
    | some (.lst l) => some !l.isEmpty
    | _ => none
  | _ => none
/-! data: what == and repr look at -/
mutual
def D.py : D → Option PyData
  | .non => some .none
  | .bl b => some (.bool b)
  | .int i => some (.int i)
  | .str s => some (.str s)
  | .tup l => (pys l).map .tuple
  | .lst l => (pys l).map .list
  | .rol l => (pys l).map .list
  | _ => none
def pys : List D → Option (List PyData)
  | [] => some []
  | d :: r => match d.py, pys r with
    | some x, some y => some (x :: y)
    | _, _ => none
end
/-- one step through a cell -/
def D.top (M : Mem) : D → D
  | .obj n => match M[n]? with
    | some (.lst l) => .lst l
    | _ => .obj n
  | d => d
mutual
def eqD : D → D → Bool
  | .non, .non => true
  | .bl a, .bl b => a == b
  | .bl a, .int j => decide ((if a then 1 else 0) = j)
  | .int i, .bl b => decide (i = (if b then 1 else 0))
  | .int i, .int j => decide (i = j)
  | .str x, .str y => decide (x = y)
  | .tup a, .tup b => eqDs a b
  | .lst a, .lst b => eqDs a b
  | .lst a, .rol b => eqDs a b
  | .rol a, .lst b => eqDs a b
  | .rol a, .rol b => eqDs a b
  | _, _ => false
def eqDs : List D → List D → Bool
  | [], [] => true
  | a :: r, b :: s => eqD a b && eqDs r s
  | _, _ => false
end
mutual
/-- plain data of at most such a depth -/
def D.sh : Nat → D → Bool
  | _, .non => true
  | _, .bl _ => true
  | _, .int _ => true
  | _, .str s => PyData.strOk s
  | n + 1, .tup l => shs n l
  | n + 1, .lst l => shs n l
  | n + 1, .rol l => shs n l
  | _, _ => false
def shs : Nat → List D → Bool
  | _, [] => true
  | n, d :: r => d.sh n && shs n r
end
mutual
/-- plain data -/
def D.pl : D → Bool
  | .non => true
  | .bl _ => true
  | .int _ => true
  | .str s => PyData.strOk s
  | .tup l => pls l
  | .lst l => pls l
  | .rol l => pls l
  | _ => false
def pls : List D → Bool
  | [] => true
  | d :: r => d.pl && pls r
end
def eqOk (x y : D) : Bool := (x.sh 60 && y.pl) || (x.pl && y.sh 60)
def cmpEq (neg : Bool) (x y : D) (M : Mem) : Res D := if eqOk (x.top M) (y.top M) then .ok (.bl (neg != eqD (x.top M) (y.top M))) M else .bad

def D.flat : D → Bool
  | .non => true
  | .bl _ => true
  | .int _ => true
  | .str _ => true
  | _ => false
def kget (kvs : List (D × D)) (k : D) : Option D := (kvs.find? fun p => decide (p.1.nk = k.nk)).map (·.2)
/-- the key's kind is that of the dict's keys -/
def kOk (kvs : List (D × D)) (k : D) : Bool := (k.leaf && kvs.all fun p => p.1.leaf) || (k.tk && kvs.all fun p => p.1.tk)
/-- the dict with a value stored at a key -/
def kset (kvs : List (D × D)) (k v : D) : List (D × D) := if kvs.any (fun p => decide (p.1.nk = k.nk)) then kvs.map (fun p => if p.1.nk = k.nk then (p.1, v) else p) else kvs ++ [(k, v)]
def inD (x : D) (l : List D) : Bool := l.any fun y => eqD y x
def cmpIn (neg : Bool) (x y : D) (M : Mem) : Res D := match y with
  | .dct kvs => .bad
  | .str _ => .bad
  | y => match seqOf M y with
    | some l => if x.flat && l.all D.flat then .ok (.bl (neg != inD x l)) M else .bad
    | none => .bad
def cmpI (op : CmpOp) (i j : Int) : Option Bool := match op with
  | .Lt => some (decide (i < j))
  | .LtE => some (decide (i ≤ j))
  | .Gt => some (decide (j < i))
  | .GtE => some (decide (j ≤ i))
  | _ => none
/-- the order of data -/
def ordP (op : CmpOp) (p q : PyData) : Option Bool := match op with
  | .Lt => some (PySem.W.dataLt p q)
  | .Gt => some (PySem.W.dataLt q p)
  | .LtE => some (!PySem.W.dataLt q p)
  | .GtE => some (!PySem.W.dataLt p q)
  | _ => none
def isNon : PyData → Bool
  | .none => true
  | _ => false
def cmLt (op : CmpOp) (p q : PyData) : Bool := decide (op = .Lt) && pur p && pur q && cm p q && decide (min p.depth q.depth ≤ 60)
def ordD (op : CmpOp) (x y : Option PyData) (M : Mem) : Res D := match x, y with
  | some p, some q => if cmLt op p q then .ok (.bl (PySem.W.dataLt p q)) M else if PySem.W.alike p q && !isNon p && decide (min p.depth q.depth ≤ 60) then match ordP op p q with
    | some b => .ok (.bl b) M
    | none => .bad
    else .bad
  | _, _ => .bad
/-- a tuple beside () -/
def emptyT : D → D → Option Bool
  | .tup l, .tup [] => some l.isEmpty
  | .str a, .str b => some (decide (a = b))
  | _, _ => none
/-- one and the same: of two truth values -/
def isD (neg : Bool) (x y : D) (M : Mem) : Res D := match x, y with
  | .bl a, .bl b => .ok (.bl (neg != decide (a = b))) M
  | _, _ => .bad
def cmpD (op : CmpOp) (x y : D) (M : Mem) : Res D := match op with
  | .Is => isD false x y M
  | .IsNot => isD true x y M
  | .Eq => match emptyT x y with
    | some b => .ok (.bl b) M
    | none => cmpEq false x y M
  | .NotEq => cmpEq true x y M
  | .In => cmpIn false x y M
  | .NotIn => cmpIn true x y M
  | op => match x, y with
    | .int i, .int j => match cmpI op i j with
      | some b => .ok (.bl b) M
      | none => .bad
    | x, y => ordD op (x.top M).py (y.top M).py M
def i64 (i : Int) : Bool := decide (-(2 ^ 64) < i ∧ i < 2 ^ 64)
def binD (op : Operator) (x y : D) (M : Mem) : Res D := match op with
  | .Add => match x, y with
    | .int i, .int j => .ok (.int (i + j)) M
    | .str a, .str b => if a.length + b.length ≤ LIM then .ok (.str (a ++ b)) M else .bad
    | .tup a, .tup b => if a.length + b.length ≤ LIM then .ok (.tup (a ++ b)) M else .bad
    | x, y => match lstOf M x, lstOf M y with
      | some a, some b => if a.length + b.length ≤ LIM then .ok (.lst (a ++ b)) M else .bad
      | _, _ => .bad
  | .Sub => match x, y with
    | .int i, .int j => .ok (.int (i - j)) M
    | _, _ => .bad
  | .Mult => match x, y with
    | .int i, .int j => if i64 i || i64 j then .ok (.int (i * j)) M else .bad
    | x, .int k => match lstOf M x with
      | some a => if 0 ≤ k ∧ k ≤ 1000 ∧ a.length ≤ 1000 then .ok (.lst (List.replicate k.toNat a).flatten) M else .bad
      | none => .bad
    | _, _ => .bad
  | .Mod => match x, y with
    | .int i, .int j => if 0 < j then .ok (.int (i % j)) M else .bad
    | _, _ => .bad
  | .FloorDiv => match x, y with
    | .int i, .int j => if 0 < j ∧ j < 1073741824 then .ok (.int (i / j)) M else .bad
    | _, _ => .bad
  | .Pow => match x, y with
    | .int i, .int j => if 0 ≤ j ∧ j ≤ 1000000 ∧ i.natAbs < 2 ^ 64 then .ok (.int (i ^ j.toNat)) M else .bad
    | _, _ => .bad
  | _ => .bad
def atD (l : List D) (i : Int) (M : Mem) : Res D := match atI l i with
  | some d => .ok d M
  | none => .bad
def idxS (x y : D) (M : Mem) : Res D := match y with
  | .int i => match seqOf M x with
    | some l => atD l i M
    | none => .bad
  | _ => .bad
def idxD (x y : D) (M : Mem) : Res D := match dctOf M x with
  | some kvs => if kOk kvs y then match kget kvs y with
    | some d => .ok d M
    | none => .bad
    else .bad
  | none => idxS x y M
def optI : Option D → Option (Option Int)
  | none => some none
  | some (.int i) => some (some i)
  | _ => none
def optR (o : Option D) (M : Mem) : Res (Option Int) := match optI o with
  | some i => .ok i M
  | none => .bad
def cutL {α : Type} (xs : List α) (lo hi : Option Int) : List α := (xs.drop (HT.sIx xs.length 0 lo)).take (HT.sIx xs.length xs.length hi - HT.sIx xs.length 0 lo)
def sliD (x : D) (lo hi : Option Int) (M : Mem) : Res D := match x with
  | .tup l => .ok (.tup (cutL l lo hi)) M
  | x => match lrOf M x with
    | some l => .ok (.lst (cutL l lo hi)) M
    | none => .bad
def revD (x : D) (M : Mem) : Res D := match x with
  | .tup l => .ok (.tup l.reverse) M
  | x => match lrOf M x with
    | some l => .ok (.lst l.reverse) M
    | none => .bad
def unaD (op : UnaryOp) (x : D) (M : Mem) : Res D := match op, x with
  | .USub, .int i => .ok (.int (-i)) M
  | _, _ => .bad

def tyOf (M : Mem) : D → Option String
  | .non => some "NoneType"
  | .bl _ => some "bool"
  | .int _ => some "int"
  | .str _ => some "str"
  | .tup _ => some "tuple"
  | .lst _ => some "list"
  | .rol _ => some "list"
  | .dct _ => some "dict"
  | .obj n => match M[n]? with
    | some (.lst _) => some "list"
    | some (.dct _) => some "dict"
    | none => none
  | _ => none
def isiD (M : Mem) (x t : D) : Option Bool := match t with
  | .ty T => match tyOf M x with
    | some S => if T = "int" then some (S = "int" || S = "bool") else if T = "str" ∨ T = "tuple" ∨ T = "list" ∨ T = "bool" ∨ T = "dict" then some (decide (S = T)) else none
    | none => none
  | _ => none
inductive Blt where
  | len | isi | repr | all | any | int | abs | max | min | sum | tuple | list | divmod | sorted | dict
  deriving DecidableEq
def intsD : List D → Option (List Int)
  | [] => some []
  | .int i :: r => (intsD r).map (i :: ·)
  | _ => none
def bls : List D → Option (List Bool)
  | [] => some []
  | .bl b :: r => (bls r).map (b :: ·)
  | _ => none
def maxI : Int → List Int → Int
  | m, [] => m
  | m, x :: r => maxI (if m < x then x else m) r
def minI : Int → List Int → Int
  | m, [] => m
  | m, x :: r => minI (if x < m then x else m) r
/-- what sorted() walks -/
def keysOf (M : Mem) (x : D) : Option (List D) := match dctOf M x with
  | some kvs => some (kvs.map (·.1))
  | none => lrOf M x
def encD (d : D) : PyData := d.py.getD .none
def isTup1 : PyData → Bool
  | .tuple (_ :: _) => true
  | _ => false
def sortOk (l : List D) : Bool := decide (l.length ≤ LIM) && l.all (fun d => d.py.isSome && decide ((encD d).depth ≤ 60) && pur (encD d)) && l.all (fun a => l.all fun b => cm (encD a) (encD b)) &&
  (l.all (fun d => isTup1 (encD d)) || l.all (fun d => !isT (encD d)) || decide (l.length ≤ 1))
def sortD (l : List D) : List D := l.mergeSort (PySem.W.dataLe false encD)
/-- the pairs of which dict() makes a dict -/
def pairsD : List D → Option (List (D × D))
  | [] => some []
  | .tup [k, v] :: r => (pairsD r).map ((k, v) :: ·)
  | _ => none
def dictF (acc ps : List (D × D)) : List (D × D) := ps.foldl (fun acc p => kset acc p.1 p.2) acc
def pairsOk (ps : List (D × D)) : Bool := decide (ps.length ≤ LIM) && (ps.all (fun p => p.1.leaf) || ps.all (fun p => p.1.tk))
def tlOf (M : Mem) : D → Option (List D)
  | .tup l => some l
  | x => lrOf M x
def newCell (M : Mem) (c : Cell) : Res D := .ok (.obj M.length) (M ++ [c])
def bltD (call : D → List D → Mem → Res D) (b : Blt) (l : List D) (M : Mem) : Res D := match b, l with
  | .len, [x] => match x with
    | .str s => if s.length ≤ LIM then .ok (.int s.length) M else .bad
    | x => match seqOf M x with
      | some l => .ok (.int l.length) M
      | none => .bad
  | .isi, [x, t] => match isiD M x t with
    | some b => .ok (.bl b) M
    | none => .bad
  | .repr, [x] => match (x.top M).py with
    | some p => if p.showable && decide (p.depth ≤ 60) && decide (p.shown.length ≤ LIM) then .ok (.str p.shown) M else .bad
    | none => .bad
  | .all, [x] => match (lstOf M x).bind bls with
    | some bs => .ok (.bl (bs.all id)) M
    | none => .bad
  | .any, [x] => match (lstOf M x).bind bls with
    | some bs => .ok (.bl (bs.any id)) M
    | none => .bad
  | .int, [x] => match x with
    | .int i => .ok (.int i) M
    | .bl b => .ok (.int (if b then 1 else 0)) M
    | _ => .bad
  | .abs, [x] => match x with
    | .int i => .ok (.int (if i < 0 then -i else i)) M
    | _ => .bad
  | .max, [x] => match (lstOf M x).bind intsD with
    | some (m :: r) => .ok (.int (maxI m r)) M
    | _ => .bad
  | .max, [x, y] => match x, y with
    | .int i, .int j => .ok (.int (if j > i then j else i)) M
    | _, _ => .bad
  | .min, [x] => match (lstOf M x).bind intsD with
    | some (m :: r) => .ok (.int (minI m r)) M
    | _ => .bad
  | .min, [x, y] => match x, y with
    | .int i, .int j => .ok (.int (if j < i then j else i)) M
    | _, _ => .bad
  | .sum, [x] => match (lstOf M x).bind intsD with
    | some l => .ok (.int l.sum) M
    | _ => .bad
  | .tuple, [x] => match x with
    | .tup l => .ok (.tup l) M
    | x => match lrOf M x with
      | some l => .ok (.tup l) M
      | none => .bad
  | .list, [x] => match seqOf M x with
    | some l => .ok (.lst l) M
    | none => .bad
  | .divmod, [x, y] => match x, y with
    | .int i, .int j => if 0 < j ∧ j < 18446744073709551616 then .ok (.tup [.int (i / j), .int (i % j)]) M else .bad
    | _, _ => .bad
  | .sorted, [x] => match keysOf M x with
    | some l => if sortOk l then .ok (.lst (sortD l)) M else .bad
    | none => .bad
  | .dict, [x] => match (tlOf M x).bind pairsD with
    | some ps => if pairsOk ps then newCell M (.dct (dictF [] ps)) else .bad
    | none => .bad
  | _, _ => .bad
inductive Met where
  | append | get | insert | count
  deriving DecidableEq
def metD (m : Met) (o : D) (l : List D) (M : Mem) : Res D := match m, o, l with
  | .append, .obj n, [x] => match M[n]? with
    | some (.lst xs) => if xs.length < LIM && x.und n then .ok .non (M.set n (.lst (xs ++ [x]))) else .bad
    | _ => .bad
  | .get, o, [k, d] => match dctOf M o with
    | some kvs => if kOk kvs k then .ok ((kget kvs k).getD d) M else .bad
    | none => .bad
  | .insert, .obj n, [.int i, x] => match M[n]? with
    | some (.lst xs) => if decide (xs.length < LIM) && x.und n && decide (0 ≤ i ∧ i < 2 ^ 63) then .ok .non (M.set n (.lst (xs.take i.toNat ++ [x] ++ xs.drop i.toNat))) else .bad
    | _ => .bad
  | .count, o, [.int k] => match (lrOf M o).bind intsD with
    | some ns => .ok (.int (ns.count k : Nat)) M
    | none => .bad
  | _, _, _ => .bad
/-- such a receiver -/
def recD (m : Met) (M : Mem) (d : D) : Bool := match m, d with
  | .append, .obj n => match M[n]? with
    | some (.lst _) => true
    | _ => false
  | .get, d => (dctOf M d).isSome
  | .insert, .obj n => match M[n]? with
    | some (.lst _) => true
    | _ => false
  | .count, d => (lrOf M d).isSome
  | _, _ => false
/-- o[i] = v -/
def setD (o i v : D) (M : Mem) : Option Mem := match o with
  | .obj n => match M[n]? with
    | some (.lst xs) => match i with
      | .int i => match ixN xs.length i with
        | some j => if v.und n then some (M.set n (.lst (xs.set j v))) else none
        | none => none
      | _ => none
    | some (.dct kvs) => if kOk kvs i && decide (kvs.length < LIM) && i.und n && v.und n then some (M.set n (.dct (kset kvs i v))) else none
    | none => none
  | _ => none

/-! ### the language -/
mutual
inductive C where
  | k (d : D)
  | var (i : Nat)
  | glo (x : Str)
  | bin (op : Operator) (a b : C)
  | una (op : UnaryOp) (a : C)
  | cmp (op : CmpOp) (a b : C)
  | chn (op op' : CmpOp) (a b c : C)
  | and_ (a b : C)
  | or_ (a b : C)
  | not_ (a : C)
  | ite (t a b : C)
  | tup (l : CL)
  | lst (cell : Bool) (l : CL)
  | dnew (cell : Bool)
  | ddis (cell : Bool) (kvs : List (D × D))
  | idx (a b : C)
  | sli (a : C) (lo hi : CO)
  | rev (a : C)
  | call (x : Str) (l k : CL) (ord : List (Nat ⊕ Nat))
  | cal (i : Nat) (l : CL)
  | blt (b : Blt) (l : CL)
  | met (m : Met) (o : C) (l : CL)
  | comp (cell : Bool) (own : List (Str × Nat)) (t : T) (it : I) (ifs : CO) (e : C)
inductive CL where
  | nil
  | cons (a : C) (l : CL)
inductive CO where
  | none
  | some (a : C)
inductive T where
  | var (i : Nat)
  | tup (l : TL)
  | sub (a b : C)
inductive TL where
  | nil
  | cons (t : T) (l : TL)
inductive I where
  | val (a : C)
  | rng1 (a : C)
  | rng2 (a b : C)
  | zip (a b : C)
  | enum (a : C)
end
mutual
inductive S where
  | asg (t : T) (e : C)
  | par (l : List Nat) (e : CL)
  | ex (e : C)
  | ret (e : C)
  | retN
  | if_ (c : C) (a b : SL)
  | for_ (t : T) (it : I) (b : SL)
  | whl (c : C) (b : SL)
  | pass
  | brk
  | cnt
  | never
inductive SL where
  | nil
  | cons (s : S) (l : SL)
end
def TL.len : TL → Nat
  | .nil => 0
  | .cons _ l => l.len + 1
def CL.len : CL → Nat
  | .nil => 0
  | .cons _ l => l.len + 1
abbrev St' := List (Option D)
inductive Flow' where
  | next (σ : St')
  | ret (d : D)
  | brk (σ : St')
  | cnt (σ : St')
def wipe' (σ : St') : List Nat → St'
  | [] => σ
  | i :: r => (wipe' σ r).set i none
def pick (vs ds : List D) : Nat ⊕ Nat → Option D
  | .inl i => vs[i]?
  | .inr i => ds[i]?
def arrange (vs ds : List D) : List (Nat ⊕ Nat) → Option (List D)
  | [] => some []
  | i :: r => match pick vs ds i, arrange vs ds r with
    | some d, some l => some (d :: l)
    | _, _ => none
def fresh (cell : Bool) (l : List D) (M : Mem) : Res D := if cell then newCell M (.lst l) else .ok (.lst l) M
def truR (d : D) (M : Mem) : Res Bool := match truth M d with
  | some b => .ok b M
  | none => .bad
/-- the items that are walked -/
inductive W where
  | seq (l : List D)
def rngL (lo : Int) (n : Nat) : List D := (List.range n).map fun (i : Nat) => .int (lo + (i : Int))
def enumL : Nat → List D → List D
  | _, [] => []
  | i, d :: r => .wtp [.int i, d] :: enumL (i + 1) r
def zipL : List D → List D → List D
  | a :: r, b :: s => .wtp [a, b] :: zipL r s
  | _, _ => []
/-- what a value's walk gives -/
def walkV (x : D) (M : Mem) : Res (List D × Option Nat) := match x with
  | .obj n => match M[n]? with
    | some (.lst l) => .ok (l, some n) M
    | _ => .bad
  | x => match seqOf M x with
    | some l => .ok (l, none) M
    | none => .bad
def zipV (x y : D) (M : Mem) : Res (List D × Option Nat) := match x, y with
  | .tup l, .tup r => .ok (zipL l r, none) M
  | .lst l, .lst r => .ok (zipL l r, none) M
  | _, _ => .bad
def enumV (x : D) (M : Mem) : Res (List D × Option Nat) := match x with
  | .lst l => .ok (enumL 0 l, none) M
  | .tup l => .ok (enumL 0 l, none) M
  | _ => .bad
def rng1V (x : D) (M : Mem) : Res (List D × Option Nat) := match x with
  | .int n => if -1000000 ≤ n ∧ n ≤ 1000000 then .ok (rngL 0 n.toNat, none) M else .bad
  | _ => .bad
def rng2V (x y : D) (M : Mem) : Res (List D × Option Nat) := match x, y with
  | .int lo, .int hi => if (-1000000 ≤ lo ∧ lo ≤ 1000000) ∧ -1000000 ≤ hi ∧ hi ≤ 1000000 then .ok (rngL lo (hi - lo).toNat, none) M else .bad
  | _, _ => .bad
/-- what a text is run in: the module's constants, the defaults, the calls -/
structure En where
  G : Str → Option D
  dfl : Str → List D
  call : D → List D → Mem → Res D
/-- a walked cell still holds the items -/
def wOk (w : Option Nat) (xs : List D) (M : Mem) : Prop := match w with
  | none => True
  | some n => M[n]? = some (.lst xs)
noncomputable def chkW (w : Option Nat) (xs : List D) (M : Mem) : Bool := @decide (wOk w xs M) (Classical.propDecidable _)
@[simp] theorem chkW_none {xs : List D} {M : Mem} : chkW none xs M = true := @decide_eq_true _ (Classical.propDecidable _) trivial
theorem chkW_some {n : Nat} {xs : List D} {M : Mem} (h : M[n]? = some (.lst xs)) : chkW (some n) xs M = true := @decide_eq_true _ (Classical.propDecidable _) h
noncomputable def compL (w : Option Nat) (all : List D) (g : D → St' → Mem → Res St') (p : St' → Mem → Res Bool) (f : St' → Mem → Res D) (σ : St') : List D → List D → Mem → Res (List D)
  | [], acc, M => if chkW w all M then .ok acc M else .bad
  | x :: r, acc, M => if chkW w all M then (g x σ M).bind fun σ1 M => (p σ1 M).bind fun b M => match b with
    | true => (f σ1 M).bind fun y M => if acc.length < LIM then compL w all g p f σ r (acc ++ [y]) M else .bad
    | false => compL w all g p f σ r acc M
    else .bad
noncomputable section
variable (E : En)
mutual
def ev : C → St' → Mem → Res D
  | .k d, _, M => .ok d M
  | .var i, σ, M => match σ[i]? with
    | some (some d) => .ok d M
    | _ => .bad
  | .glo x, _, M => match E.G x with
    | some d => .ok d M
    | none => .bad
  | .bin op a b, σ, M => (ev a σ M).bind fun x M => (ev b σ M).bind fun y M => binD op x y M
  | .una op a, σ, M => (ev a σ M).bind fun x M => unaD op x M
  | .cmp op a b, σ, M => (ev a σ M).bind fun x M => (ev b σ M).bind fun y M => cmpD op x y M
  | .chn op op' a b c, σ, M => (ev a σ M).bind fun x M => (ev b σ M).bind fun y M => (cmpD op x y M).bind fun r M => match r with
    | .bl true => (ev c σ M).bind fun z M => cmpD op' y z M
    | .bl false => .ok (.bl false) M
    | _ => .bad
  | .and_ a b, σ, M => (ev a σ M).bind fun x M => (truR x M).bind fun t M => match t with
    | true => ev b σ M
    | false => .ok x M
  | .or_ a b, σ, M => (ev a σ M).bind fun x M => (truR x M).bind fun t M => match t with
    | true => .ok x M
    | false => ev b σ M
  | .not_ a, σ, M => (ev a σ M).bind fun x M => (truR x M).bind fun t M => .ok (.bl !t) M
  | .ite t a b, σ, M => (ev t σ M).bind fun x M => (truR x M).bind fun t M => match t with
    | true => ev a σ M
    | false => ev b σ M
  | .tup l, σ, M => (evs l σ M).bind fun ds M => if ds.length ≤ LIM then .ok (.tup ds) M else .bad
  | .lst c l, σ, M => (evs l σ M).bind fun ds M => if ds.length ≤ LIM then fresh c ds M else .bad
  | .dnew c, _, M => if c then newCell M (.dct []) else .ok (.dct []) M
  | .ddis c kvs, _, M => if c then newCell M (.dct kvs) else .ok (.dct kvs) M
  | .idx a b, σ, M => (ev a σ M).bind fun x M => (ev b σ M).bind fun y M => idxD x y M
  | .sli a lo hi, σ, M => (ev a σ M).bind fun x M => ((evo lo σ M).bind optR).bind fun l M => ((evo hi σ M).bind optR).bind fun h M => sliD x l h M
  | .rev a, σ, M => (ev a σ M).bind fun x M => revD x M
  | .call x l k ord, σ, M => (evs l σ M).bind fun ds M => (evs k σ M).bind fun es M => match arrange (ds ++ es) (E.dfl x) ord with
    | some as => E.call (.fn x) as M
    | none => .bad
  | .cal i l, σ, M => match σ[i]? with
    | some (some f) => (evs l σ M).bind fun ds M => E.call f ds M
    | _ => .bad
  | .blt b l, σ, M => (evs l σ M).bind fun ds M => bltD E.call b ds M
  | .met m o l, σ, M => (ev o σ M).bind fun x M => if recD m M x then (evs l σ M).bind fun ds M => metD m x ds M else .bad
  | .comp c own t it ifs e, σ, M => (evi it σ M).bind fun xs M => (compL xs.2 xs.1 (fun x σ M => asT t x σ M) (fun σ M => (evo ifs σ M).bind fun r M => match r with
      | none => .ok true M
      | some x => truR x M) (fun σ M => ev e σ M) (wipe' σ (own.map (·.2))) xs.1 [] M).bind fun acc M => fresh c acc M
def evs : CL → St' → Mem → Res (List D)
  | .nil, _, M => .ok [] M
  | .cons a l, σ, M => (ev a σ M).bind fun x M => (evs l σ M).bind fun xs M => .ok (x :: xs) M
def evo : CO → St' → Mem → Res (Option D)
  | .none, _, M => .ok none M
  | .some a, σ, M => (ev a σ M).bind fun x M => .ok (some x) M
def evi : I → St' → Mem → Res (List D × Option Nat)
  | .val a, σ, M => (ev a σ M).bind fun x M => walkV x M
  | .rng1 a, σ, M => (ev a σ M).bind fun x M => rng1V x M
  | .rng2 a b, σ, M => (ev a σ M).bind fun x M => (ev b σ M).bind fun y M => rng2V x y M
  | .zip a b, σ, M => (ev a σ M).bind fun x M => (ev b σ M).bind fun y M => zipV x y M
  | .enum a, σ, M => (ev a σ M).bind fun x M => enumV x M
/-- a value goes to a target -/
def asT : T → D → St' → Mem → Res St'
  | .var i, d, σ, M => .ok (σ.set i (some d)) M
  | .tup l, d, σ, M => match d with
    | .tup ds => if ds.length = l.len then asTs l ds σ M else .bad
    | .wtp ds => if ds.length = l.len then asTs l ds σ M else .bad
    | _ => .bad
  | .sub a b, d, σ, M => (ev a σ M).bind fun o M => (ev b σ M).bind fun i M => match setD o i d M with
    | some M => .ok σ M
    | none => .bad
def asTs : TL → List D → St' → Mem → Res St'
  | .nil, ds, σ, M => match ds with
    | [] => .ok σ M
    | _ => .bad
  | .cons t l, ds, σ, M => match ds with
    | d :: ds => (asT t d σ M).bind fun σ M => asTs l ds σ M
    | _ => .bad
end
end
end Ev

set_option Elab.async false
set_option linter.all false
set_option maxRecDepth 100000
set_option maxHeartbeats 1000000
/-! Ev3: the built-in operations do in the model what binD, cmpD .. say. -/
namespace Ev
open PySem PySem.Spec PyProof.Rows L2

def Post {α : Type} (g : Gx) (ρ : Rho) (H : Hp) (r : Res α) (Q : α → Mem → Rho → Hp → Prop) : Prop := match r with
  | .ok a M' => ∀ ρ' H', Ext ρ H ρ' H' → Rep g ρ' M' H' → Q a M' ρ' H'
  | .exc _ _ => False
  | .bad => False
section
variable {g : Gx} {ρ : Rho} {H : Hp} {α β : Type}
theorem Post.bind {r : Res α} {f : α → Mem → Res β} {Q : β → Mem → Rho → Hp → Prop} (h : Post g ρ H (r.bind f) Q) : Post g ρ H r fun a M1 ρ1 H1 => Post g ρ1 H1 (f a M1) Q := by
  cases r with
  | ok a M =>
    intro ρ1 H1 e1 r1
    have h' : Post g ρ H (f a M) Q := h
    revert h'
    cases f a M with
    | ok b M2 => exact fun h' ρ2 H2 e2 r2 => h' ρ2 H2 (e1.trans e2) r2
    | exc _ _ => exact fun h' => h'
    | bad => exact fun h' => h'
  | exc _ _ => exact h
  | bad => exact h
theorem Post.mono {r : Res α} {Q Q' : α → Mem → Rho → Hp → Prop} (h : Post g ρ H r Q) (k : ∀ a M' ρ' H', Ext ρ H ρ' H' → Rep g ρ' M' H' → Q a M' ρ' H' → Q' a M' ρ' H') : Post g ρ H r Q' := by
  cases r with
  | ok a M => exact fun ρ1 H1 e1 r1 => k _ _ _ _ e1 r1 (h ρ1 H1 e1 r1)
  | exc _ _ => exact h
  | bad => exact h
theorem Post.here {a : α} {M : Mem} {Q : α → Mem → Rho → Hp → Prop} (h : Post g ρ H (.ok a M) Q) (r : Rep g ρ M H) : Q a M ρ H := h _ _ (.refl _ _) r
theorem Post.no {Q : α → Mem → Rho → Hp → Prop} (h : Post g ρ H (.bad : Res α) Q) : False := h
end
def QV (g : Gx) (Q : VK) : D → Mem → Rho → Hp → Prop := fun d _ ρ H => ∀ v, RD g ρ H d v → Q v H
def rOp2 (g : Gx) (f : D → D → Mem → Res D) : R2 := fun x y H Q => ∃ ρ M d e, Rep g ρ M H ∧ RD g ρ H d x ∧ RD g ρ H e y ∧ Post g ρ H (f d e M) (QV g Q)
def rOp1 (g : Gx) (f : D → Mem → Res D) : V → Hp → VK → Prop := fun x H Q => ∃ ρ M d, Rep g ρ M H ∧ RD g ρ H d x ∧ Post g ρ H (f d M) (QV g Q)
def rOpN (g : Gx) (f : List D → Mem → Res D) : List V → Hp → VK → Prop := fun xs H Q => ∃ ρ M ds, Rep g ρ M H ∧ RDs g ρ H ds xs ∧ Post g ρ H (f ds M) (QV g Q)

theorem LIM_line {n : Nat} (h : n ≤ LIM) : n ≤ sizeLine := Nat.le_trans h (by decide)
theorem LIM_lt {n : Nat} (h : n < LIM) : n < sizeLine := Nat.lt_of_lt_of_le h (by decide)
section
variable {g : Gx} {ρ : Rho} {H : Hp} {M : Mem}
theorem seqOf_ok {d : D} {v : V} {l : List D} (r : Rep g ρ M H) (h : RD g ρ H d v) (e : seqOf M d = some l) : ∃ a vs, v = .ref a ∧ (SqL g.K H a vs ∨ SqT g.K H a vs) ∧ RDs g ρ H l vs := by
  cases h with
  | tup h q => simp only [seqOf, Option.some.injEq] at e; subst e; exact ⟨_, _, rfl, .inr h.seq, q⟩
  | lst n h q => simp only [seqOf, Option.some.injEq] at e; subst e; exact ⟨_, _, rfl, .inl (SqL.of h), q⟩
  | rol h q => simp only [seqOf, Option.some.injEq] at e; subst e; exact ⟨_, _, rfl, .inl h.seq, q⟩
  | @obj n a h =>
    obtain ⟨c, hc, ok⟩ := r.at_ h
    cases c with
    | lst l' =>
      simp only [seqOf, hc, Option.some.injEq] at e; subst e
      obtain ⟨vs, h1, q⟩ := ok
      exact ⟨_, _, rfl, .inl (SqL.of h1), q⟩
    | dct _ => simp [seqOf, hc] at e
  | _ => simp [seqOf] at e
theorem lstOf_ok {d : D} {v : V} {l : List D} (r : Rep g ρ M H) (h : RD g ρ H d v) (e : lstOf M d = some l) : ∃ a vs, v = .ref a ∧ H a = some (.lst vs) ∧ RDs g ρ H l vs := by
  cases h with
  | lst n h q => simp only [lstOf, Option.some.injEq] at e; subst e; exact ⟨_, _, rfl, h, q⟩
  | @obj n a h =>
    obtain ⟨c, hc, ok⟩ := r.at_ h
    cases c with
    | lst l' =>
      simp only [lstOf, hc, Option.some.injEq] at e; subst e
      obtain ⟨vs, h1, q⟩ := ok
      exact ⟨_, _, rfl, h1, q⟩
    | dct _ => simp [lstOf, hc] at e
  | _ => simp [lstOf] at e
theorem lrOf_ok {d : D} {v : V} {l : List D} (r : Rep g ρ M H) (h : RD g ρ H d v) (e : lrOf M d = some l) : ∃ a vs, v = .ref a ∧ SqL g.K H a vs ∧ RDs g ρ H l vs := by
  cases h with
  | lst n h q => simp only [lrOf, Option.some.injEq] at e; subst e; exact ⟨_, _, rfl, SqL.of h, q⟩
  | rol h q => simp only [lrOf, Option.some.injEq] at e; subst e; exact ⟨_, _, rfl, h.seq, q⟩
  | @obj n a h =>
    obtain ⟨c, hc, ok⟩ := r.at_ h
    cases c with
    | lst l' =>
      simp only [lrOf, hc, Option.some.injEq] at e; subst e
      obtain ⟨vs, h1, q⟩ := ok
      exact ⟨_, _, rfl, SqL.of h1, q⟩
    | dct _ => simp [lrOf, hc] at e
  | _ => simp [lrOf] at e
/-- a new list by value -/
theorem new_lst {Q : VK} {l : List D} {vs : List V} (r : Rep g ρ M H) (q : RDs g ρ H l vs) (h : Post g ρ H (.ok (.lst l) M) (QV g Q)) {p : Addr} (hp : H p = none) : Q (.ref p) (upd H p (.lst vs)) :=
  h _ _ (Ext.new r hp) (r.new hp) _ (.lst (r.fresh hp) upd_same (q.ext (Ext.new r hp)))
theorem new_tup {Q : VK} {l : List D} {vs : List V} (r : Rep g ρ M H) (q : RDs g ρ H l vs) (h : Post g ρ H (.ok (.tup l) M) (QV g Q)) {p : Addr} {its : List Value} (hp : H p = none) : Q (.ref p) (upd H p (tfz its vs)) :=
  h _ _ (Ext.new r hp) (r.new hp) _ (.tup (.inl ⟨r.fresh hp, its, upd_same⟩) (q.ext (Ext.new r hp)))
theorem new_cell {Q : VK} {l : List D} {vs : List V} (r : Rep g ρ M H) (q : RDs g ρ H l vs) (h : Post g ρ H (newCell M (.lst l)) (QV g Q)) {p : Addr} (hp : H p = none) : Q (.ref p) (upd H p (.lst vs)) := by
  refine h _ _ (Ext.cell r hp) (r.push hp ⟨vs, upd_same, q.ext (Ext.cell r hp)⟩ (by rw [← r.len]; exact q.belowC)) _ (.obj ?_)
  show (ρ.c ++ [p])[M.length]? = _
  rw [← r.len, List.getElem?_append_right (Nat.le_refl _)]; simp
theorem new_fresh {Q : VK} {l : List D} {vs : List V} {c : Bool} (r : Rep g ρ M H) (q : RDs g ρ H l vs) (h : Post g ρ H (fresh c l M) (QV g Q)) {p : Addr} (hp : H p = none) : Q (.ref p) (upd H p (.lst vs)) := by
  cases c with
  | true => exact new_cell r q h hp
  | false => exact new_lst r q h hp
theorem RD_int {i : Int} {v : V} (h : RD g ρ H (.int i) v) : v = .int i := by cases h; rfl
theorem RD_str {i : Str} {v : V} (h : RD g ρ H (.str i) v) : v = .str i := by cases h; rfl
theorem RD_bl {i : Bool} {v : V} (h : RD g ρ H (.bl i) v) : v = .bl i := by cases h; rfl
theorem RD_tup {l : List D} {v : V} (h : RD g ρ H (.tup l) v) : ∃ a vs, v = .ref a ∧ SqT g.K H a vs ∧ RDs g ρ H l vs := by cases h with | tup h q => exact ⟨_, _, rfl, h.seq, q⟩
end

section
variable {X : Cx} {pins : List (Addr × Obj)} {σ : L2.St} {s : Shared} {H : Hp}
/-- a new tuple, object and all -/
theorem laid_tup {its : List Value} {vs : List V} (I : Inv X pins σ H s) (r : Vals vs its) (z : vs.length ≤ sizeLine) : Inv X pins σ (upd H s.heap.objs.size (tfz its vs)) { s with heap := s.heap.push (tob its) } :=
  I.laid (t' := s.toks) (fun _ _ e => Heap.get?_push_of_some _ e) (Nat.le_refl _) (show ObjOk X.prog X.w _ _ _ (tfz its vs) from ⟨Heap.get?_push_size _ rfl, z, its, r, IsTup.new _ _⟩)
/-- t + u: beside an empty one the other one itself -/
def rCatD (K : PySem.W.Frag) : R2 := fun x y H Q => ∃ a b xs ys, x = .ref a ∧ y = .ref b ∧ SqT K H a xs ∧ SqT K H b ys ∧ xs.length + ys.length ≤ sizeLine ∧
  (xs = [] → Q (.ref b) H) ∧ (xs ≠ [] → ys = [] → Q (.ref a) H) ∧ (∀ p its, H p = none → Q (.ref p) (upd H p (tfz its (xs ++ ys))))
theorem op_catD : OpR X (binaryOp .Add) (rCatD X.K) := by
  intro pins s σ H x y v u Q I rx ry ⟨a, b, xs, ys, e1, e2, ta, tb, hz, q0, q1, q2⟩
  subst e1 e2
  cases rx; cases ry
  obtain ⟨is, ra, pa, _⟩ := I.tuple ta
  obtain ⟨js, rb, pb, _⟩ := I.tuple tb
  by_cases hx : xs = []
  · subst hx; cases ra
    exact cat_tup0 pa pb ⟨.ref _, H, I, rfl, q0 rfl⟩
  · exact HT.cat_tup pa pb (fun z => hx (ra.nil_iff.mp z)) (fun z => ⟨.ref _, H, I, rfl, q1 hx (rb.nil_iff.mp z)⟩) (fun _ => ⟨.ref _, _, laid_tup I (ra.append rb) (by rw [List.length_append]; exact hz), rfl, q2 _ _ (I.hok.fresh (Nat.le_refl _))⟩) (by rw [← ra.length, ← rb.length]; exact hz)
/-- t[lo:hi]: the whole of it is t itself -/
def rSlD (K : PySem.W.Frag) : V → Option Int → Option Int → Hp → VK → Prop := fun x lo hi H Q => ∃ a xs, x = .ref a ∧ SqT K H a xs ∧
  (HT.sIx xs.length 0 lo = 0 ∧ HT.sIx xs.length xs.length hi = xs.length → Q (.ref a) H) ∧ (∀ p its, H p = none → Q (.ref p) (upd H p (tfz its (cutV xs lo hi))))
theorem sl_tupD : SlR X (rSlD X.K) := by
  intro pins s σ H x v vl vu lo hi sl Q I rx hs pl pu ⟨a, xs, e1, tx, q1, q2⟩
  subst e1
  cases rx
  obtain ⟨is, ra, pa, hz⟩ := I.tuple tx
  have n : is.toArray.size = xs.length := by rw [List.size_toArray]; exact ra.length.symm
  refine ⟨"tuple", _, PyProof.Rows.slot_tuple_getitem.lookup, pa.typeIs, ?_⟩
  by_cases hw : HT.sIx xs.length 0 lo = 0 ∧ HT.sIx xs.length xs.length hi = xs.length
  · exact getItem_tuple_whole pa hs pl pu (by rw [n]; exact hw) ⟨.ref _, H, I, rfl, q1 hw⟩
  · refine HT.getItem_tuple_cut pa hs pl pu (by rw [n]; exact hw) ?_ (by rw [n]; exact hz)
    rw [n]
    exact ⟨.ref _, _, laid_tup I ((ra.drop (HT.sIx xs.length 0 lo)).take (HT.sIx xs.length xs.length hi - HT.sIx xs.length 0 lo)) (Nat.le_trans (cutV_length xs lo hi) hz), rfl, q2 _ _ (I.hok.fresh (Nat.le_refl _))⟩
/-- tuple(x) -/
theorem call_tupleD : CallR X (.type "tuple") (fun xs H Q => ∃ p ys, xs = [.ref p] ∧ ((SqL X.K H p ys ∧ ∀ l its, H l = none → Q (.ref l) (upd H l (tfz its ys))) ∨ (SqT X.K H p ys ∧ Q (.ref p) H))) := by
  intro pins s σ H xs us Q I r ⟨p, ys, e1, h⟩
  subst e1
  obtain ⟨u, rfl, rx⟩ := vals1 r
  cases rx
  rcases h with ⟨tq, q⟩ | ⟨tq, q⟩
  · obtain ⟨is, ri, pl, hz⟩ := I.list tq
    refine call_tuple_list pl.isList (fun h' kp => ?_) (by rw [List.size_toArray, ← ri.length]; exact hz)
    have J : Inv X pins σ H { s with heap := h' } := I.kept (t' := s.toks) kp
    exact ⟨.ref _, _, laid_tup J ri hz, rfl, q _ _ (J.hok.fresh (Nat.le_refl _))⟩
  · obtain ⟨is, _, pl, _⟩ := I.tuple tq
    exact call_tuple_same pl ⟨.ref _, H, I, rfl, q⟩
theorem call_divmodD : CallR X (.builtin "divmod") (fun xs H Q => ∃ i j, xs = [.int i, .int j] ∧ (0 < j ∧ j < 18446744073709551616) ∧ ∀ p its, H p = none → Q (.ref p) (upd H p (tfz its [.int (i / j), .int (i % j)]))) := by
  intro pins s σ H xs us Q I r ⟨i, j, e1, ⟨h1, h2⟩, q⟩
  subst e1
  obtain ⟨u, u', rfl, ⟨t, rfl⟩, ⟨t', rfl⟩⟩ := vals2 r
  refine divmod_int (by omega) ?_ (.inl (PyProof.noPylong_of_log2 ?_))
  rotate_left
  · have l64 : j.natAbs.log2 < 64 := (Nat.log2_lt (by omega)).mpr (by omega)
    omega
  have p0 : (0 : Int) ≤ j := by omega
  rw [Int.fdiv_eq_ediv_of_nonneg i p0, Int.fmod_eq_emod_of_nonneg i p0]
  have J : Inv X pins σ H { s with toks := s.toks + 1 + 1 } := I.tok _
  exact ⟨.ref _, _, laid_tup (its := [.int (i / j) s.toks, .int (i % j) (s.toks + 1)]) (vs := [.int (i / j), .int (i % j)]) J (.cons ⟨_, rfl⟩ (.cons ⟨_, rfl⟩ .nil)) (by rw [sizeLine_eq]; simp), rfl, q _ _ (I.hok.fresh (Nat.le_refl _))⟩
/-- a display of a tuple -/
def tTupD (t : TA) : TE := fun σ H Q => t σ H fun xs H1 => xs.length ≤ sizeLine ∧ ∀ p its, H1 p = none → Q (.ref p) (upd H1 p (tfz its xs))
theorem pe_tupD {es : List Expr} {t : TA} {k : Nat} {pos : Pos} (h : PA X es t) : PE X (.Tuple es k pos) (tTupD t) :=
  ⟨fun pins s σ H Q I hq => wpAny_Tuple_spliced (thn (h.run pos pins s σ H _ I hq) fun us s1 ⟨xs, H1, J, r, z, q⟩ => ⟨by rw [← r.length]; exact z, .ref _, _, laid_tup J r z, rfl, q _ _ (J.hok.fresh (Nat.le_refl _))⟩)⟩
theorem op_binD (op : Operator) : OpR X (binaryOp op) (rOp2 (gx X) (binD op)) := by
  intro pins s σ H x y v u Q I rx ry h
  obtain ⟨ρ, M, d, e, rep, rd, re, h⟩ := h
  have go : ∀ {r : R2}, OpR X (binaryOp op) r → r x y H Q → wpAny (model X.prog X.w) X.A (binaryOp op v u) (EP X pins σ Q) X.xe s := fun o q => o pins s σ H x y v u Q I rx ry q
  cases op with
  | Add =>
    unfold binD at h
    simp only at h
    split at h
    · cases rd; cases re; exact go op_add ⟨_, _, rfl, rfl, h.here rep _ (.int _)⟩
    · cases rd; cases re
      split at h
      · rename_i hl; exact go op_add_str ⟨_, _, rfl, rfl, LIM_line hl, h.here rep _ (.str _)⟩
      · exact h.no.elim
    · obtain ⟨a, xs, rfl, ha, qa⟩ := RD_tup rd
      obtain ⟨b, ys, rfl, hb, qb⟩ := RD_tup re
      split at h
      · rename_i hl
        refine go op_catD ⟨a, b, xs, ys, rfl, rfl, ha, hb, LIM_line (by rw [← qa.length, ← qb.length]; exact hl), fun e1 => ?_, fun _ e2 => ?_, fun p its hp => new_tup rep (qa.append qb) h hp⟩
        · subst e1; cases qa; exact h.here rep _ (by simpa using re)
        · subst e2; cases qb; exact h.here rep _ (by simpa using rd)
      · exact h.no.elim
    · rename_i l1 l2 l3
      split at h
      · rename_i xs ys e1 e2
        split at h
        · rename_i hl
          obtain ⟨a, vs, rfl, ha, qa⟩ := lstOf_ok rep rd e1
          obtain ⟨b, us, rfl, hb, qb⟩ := lstOf_ok rep re e2
          exact go op_cat ⟨a, b, vs, us, rfl, rfl, ha, hb, LIM_line (by rw [← qa.length, ← qb.length]; exact hl), fun p hp => new_lst rep (qa.append qb) h hp⟩
        · exact h.no.elim
      · exact h.no.elim
  | Sub =>
    unfold binD at h
    simp only at h
    split at h
    · cases rd; cases re; exact go op_sub ⟨_, _, rfl, rfl, h.here rep _ (.int _)⟩
    · exact h.no.elim
  | Mult =>
    unfold binD at h
    simp only at h
    split at h
    · cases rd; cases re
      split at h
      · rename_i hl
        refine go op_mul ⟨_, _, rfl, rfl, ?_, h.here rep _ (.int _)⟩
        simp only [Bool.or_eq_true, i64, decide_eq_true_eq] at hl
        exact hl
      · exact h.no.elim
    · cases re
      split at h
      · rename_i a e1
        split at h
        · rename_i hl
          obtain ⟨p, vs, rfl, ha, qa⟩ := lstOf_ok rep rd e1
          obtain ⟨h1, h2, h3⟩ := hl
          refine go op_rep ⟨p, _, vs, rfl, rfl, ha, by omega, by omega, ?_, fun q hq => new_lst rep ?_ h hq⟩
          · rw [← qa.length]
            rename_i k _ _
            have : k.toNat ≤ 1000 := by omega
            exact LIM_line (Nat.le_trans (Nat.mul_le_mul h3 this) (by decide))
          · rename_i k _ _
            generalize k.toNat = n
            induction n with
            | zero => exact .nil
            | succ n ih => rw [List.replicate_succ, List.replicate_succ, List.flatten_cons, List.flatten_cons]; exact qa.append ih
        · exact h.no.elim
      · exact h.no.elim
    · exact h.no.elim
  | Mod =>
    unfold binD at h
    simp only at h
    split at h
    · cases rd; cases re
      split at h
      · rename_i hl; exact go op_mod ⟨_, _, rfl, rfl, hl, h.here rep _ (.int _)⟩
      · exact h.no.elim
    · exact h.no.elim
  | FloorDiv =>
    unfold binD at h
    simp only at h
    split at h
    · cases rd; cases re
      split at h
      · rename_i hl; exact go op_fdiv ⟨_, _, rfl, rfl, hl, h.here rep _ (.int _)⟩
      · exact h.no.elim
    · exact h.no.elim
  | Pow =>
    unfold binD at h
    simp only at h
    split at h
    · cases rd; cases re
      split at h
      · rename_i hl; exact go op_pow ⟨_, _, rfl, rfl, hl, h.here rep _ (.int _)⟩
      · exact h.no.elim
    · exact h.no.elim
  | _ => exact h.no.elim
theorem op_unaD (op : UnaryOp) : UnR X (unaryOp op) (rOp1 (gx X) (unaD op)) := by
  intro pins s σ H x v Q I rx h
  obtain ⟨ρ, M, d, rep, rd, h⟩ := h
  unfold unaD at h
  split at h
  · cases rd; exact un_neg pins s σ H _ v Q I rx ⟨_, rfl, h.here rep _ (.int _)⟩
  · exact h.no.elim

/-! ### == -/
mutual
theorem eqD_py : ∀ {x y : D} {p q : PyData}, x.pl = true → y.pl = true → x.py = some p → y.py = some q → PyData.eqv p q = eqD x y
  | x, y, p, q, hx, hy, h1, h2 => by
    cases x <;> cases y <;> simp only [D.py, D.pl, Option.some.injEq, reduceCtorEq, Option.map_eq_some_iff] at h1 h2 hx hy <;>
      first
        | (subst h1; subst h2; simp only [PyData.eqv, eqD, beq_eq_decide]; done)
        | (obtain ⟨a, ha, rfl⟩ := h1; obtain ⟨b, hb, rfl⟩ := h2; simp only [PyData.eqv, eqD]; exact eqDs_py hx hy ha hb)
        | (obtain ⟨a, ha, rfl⟩ := h1; obtain ⟨b, hb, rfl⟩ := h2; simp only [PyData.eqv, eqD]; done)
        | (subst h1; obtain ⟨b, hb, rfl⟩ := h2; simp only [PyData.eqv, eqD]; done)
        | (subst h2; obtain ⟨b, hb, rfl⟩ := h1; simp only [PyData.eqv, eqD]; done)
        | (subst h1; subst h2; rename_i a b; cases a <;> cases b <;> rfl)
        | (subst h1; subst h2; rename_i a b; cases a <;> simp [PyData.eqv, eqD, beq_eq_decide])
        | (subst h1; subst h2; rename_i a b; cases b <;> simp [PyData.eqv, eqD, beq_eq_decide])
theorem eqDs_py : ∀ {x y : List D} {p q : List PyData}, pls x = true → pls y = true → pys x = some p → pys y = some q → PyData.eqvAll p q = eqDs x y
  | x, y, p, q, hx, hy, h1, h2 => by
    cases x with
    | nil =>
      simp only [pys, Option.some.injEq] at h1; subst h1
      cases y with
      | nil => simp only [pys, Option.some.injEq] at h2; subst h2; rfl
      | cons b s => 
        simp only [pys] at h2
        split at h2
        · cases h2; rfl
        · cases h2
    | cons a r =>
      simp only [pys] at h1
      split at h1
      · rename_i p1 p2 e1 e2
        cases h1
        cases y with
        | nil => simp only [pys, Option.some.injEq] at h2; subst h2; rfl
        | cons b s =>
          simp only [pys] at h2
          split at h2
          · rename_i q1 q2 e3 e4
            cases h2
            simp only [pls, Bool.and_eq_true] at hx hy
            simp only [PyData.eqvAll, eqDs]
            rw [eqD_py hx.1 hy.1 e1 e3, eqDs_py hx.2 hy.2 e2 e4]
          · cases h2
      · cases h1
end
end
end Ev

set_option Elab.async false
set_option linter.all false
set_option maxRecDepth 100000
set_option maxHeartbeats 1000000
namespace Ev
open PySem PySem.Spec PyProof.Rows L2
/-! ### data -/
mutual
theorem pl_py : ∀ {d : D}, d.pl = true → ∃ p, d.py = some p ∧ p.canLay0 = true
  | .non, _ => ⟨_, rfl, rfl⟩
  | .bl _, _ => ⟨_, rfl, rfl⟩
  | .int _, _ => ⟨_, rfl, rfl⟩
  | .str s, h => ⟨_, rfl, by simpa only [PyData.canLay0, D.pl] using h⟩
  | .tup l, h => by
    obtain ⟨p, h1, h2⟩ := pls_py (l := l) (by simpa only [D.pl] using h)
    exact ⟨.tuple p, by simp [D.py, h1], by simpa only [PyData.canLay0] using h2⟩
  | .lst l, h => by
    obtain ⟨p, h1, h2⟩ := pls_py (l := l) (by simpa only [D.pl] using h)
    exact ⟨.list p, by simp [D.py, h1], by simpa only [PyData.canLay0] using h2⟩
  | .rol l, h => by
    obtain ⟨p, h1, h2⟩ := pls_py (l := l) (by simpa only [D.pl] using h)
    exact ⟨.list p, by simp [D.py, h1], by simpa only [PyData.canLay0] using h2⟩
  | .dct _, h => by simp [D.pl] at h
  | .obj _, h => by simp [D.pl] at h
  | .fn _, h => by simp [D.pl] at h
  | .ty _, h => by simp [D.pl] at h
theorem pls_py : ∀ {l : List D}, pls l = true → ∃ p, pys l = some p ∧ PyData.canLayAll0 p = true
  | [], _ => ⟨_, rfl, rfl⟩
  | d :: r, h => by
    simp only [pls, Bool.and_eq_true] at h
    obtain ⟨p, h1, h2⟩ := pl_py h.1
    obtain ⟨q, h3, h4⟩ := pls_py h.2
    exact ⟨p :: q, by simp [pys, h1, h3], by simp [PyData.canLayAll0, h2, h4]⟩
end
mutual
theorem sh_pl : ∀ {n : Nat} {d : D}, d.sh n = true → d.pl = true ∧ ∀ p, d.py = some p → p.depth ≤ n
  | n, .non, _ => ⟨rfl, fun p e => by cases e; simp [PyData.depth]⟩
  | n, .bl _, _ => ⟨rfl, fun p e => by cases e; simp [PyData.depth]⟩
  | n, .int _, _ => ⟨rfl, fun p e => by cases e; simp [PyData.depth]⟩
  | n, .str s, h => ⟨by cases n <;> simpa only [D.sh, D.pl] using h, fun p e => by cases e; simp [PyData.depth]⟩
  | n + 1, .tup l, h => by
    obtain ⟨h1, h2⟩ := shs_pl (n := n) (l := l) (by simpa only [D.sh] using h)
    refine ⟨by simpa only [D.pl] using h1, fun p e => ?_⟩
    simp only [D.py, Option.map_eq_some_iff] at e
    obtain ⟨q, e, rfl⟩ := e
    simp only [PyData.depth]; have := h2 _ e; omega
  | n + 1, .lst l, h => by
    obtain ⟨h1, h2⟩ := shs_pl (n := n) (l := l) (by simpa only [D.sh] using h)
    refine ⟨by simpa only [D.pl] using h1, fun p e => ?_⟩
    simp only [D.py, Option.map_eq_some_iff] at e
    obtain ⟨q, e, rfl⟩ := e
    simp only [PyData.depth]; have := h2 _ e; omega
  | n + 1, .rol l, h => by
    obtain ⟨h1, h2⟩ := shs_pl (n := n) (l := l) (by simpa only [D.sh] using h)
    refine ⟨by simpa only [D.pl] using h1, fun p e => ?_⟩
    simp only [D.py, Option.map_eq_some_iff] at e
    obtain ⟨q, e, rfl⟩ := e
    simp only [PyData.depth]; have := h2 _ e; omega
  | 0, .tup _, h => by simp [D.sh] at h
  | 0, .lst _, h => by simp [D.sh] at h
  | 0, .rol _, h => by simp [D.sh] at h
  | n, .dct _, h => by cases n <;> simp [D.sh] at h
  | n, .obj _, h => by cases n <;> simp [D.sh] at h
  | n, .fn _, h => by cases n <;> simp [D.sh] at h
  | n, .ty _, h => by cases n <;> simp [D.sh] at h
theorem shs_pl : ∀ {n : Nat} {l : List D}, shs n l = true → pls l = true ∧ ∀ p, pys l = some p → PyData.depthAll p ≤ n
  | n, [], _ => ⟨rfl, fun p e => by cases e; simp [PyData.depthAll]⟩
  | n, d :: r, h => by
    simp only [shs, Bool.and_eq_true] at h
    obtain ⟨h1, h2⟩ := sh_pl h.1
    obtain ⟨h3, h4⟩ := shs_pl h.2
    refine ⟨by simp only [pls, h1, h3, Bool.and_self], fun p e => ?_⟩
    simp only [pys] at e
    split at e
    · rename_i a b e1 e2
      cases e
      simp only [PyData.depthAll]
      exact Nat.max_le.mpr ⟨h2 _ e1, h4 _ e2⟩
    · cases e
end
section
variable {g : Gx} {ρ : Rho} {H : Hp} {M : Mem}
mutual
theorem RD.dp : ∀ {d : D} {v : V} {p : PyData}, RD g ρ H d v → d.py = some p → Dp g.K H v p
  | _, _, _, .non, e => by cases e; exact .non
  | _, _, _, .bl b, e => by cases e; exact .bl b
  | _, _, _, .int b, e => by cases e; exact .int b
  | _, _, _, .str b, e => by cases e; exact .str b
  | _, _, _, .tup h r, e => by
    simp only [D.py, Option.map_eq_some_iff] at e
    obtain ⟨q, e, rfl⟩ := e
    exact .tup h.seq (RDs.dp r e)
  | _, _, _, .lst n h r, e => by
    simp only [D.py, Option.map_eq_some_iff] at e
    obtain ⟨q, e, rfl⟩ := e
    exact .lst (SqL.of h) (RDs.dp r e)
  | _, _, _, .rol h r, e => by
    simp only [D.py, Option.map_eq_some_iff] at e
    obtain ⟨q, e, rfl⟩ := e
    exact .lst h.seq (RDs.dp r e)
  | _, _, _, .dct _ _ _ _ _ _, e => by simp [D.py] at e
  | _, _, _, .obj _, e => by simp [D.py] at e
  | _, _, _, .fn _ _, e => by simp [D.py] at e
  | _, _, _, .ty _, e => by simp [D.py] at e
theorem RDs.dp : ∀ {d : List D} {v : List V} {p : List PyData}, RDs g ρ H d v → pys d = some p → DpAll g.K H v p
  | _, _, _, .nil, e => by cases e; exact .nil
  | _, _, _, .cons a r, e => by
    simp only [pys] at e
    split at e
    · rename_i x y e1 e2
      cases e
      exact .cons (RD.dp a e1) (RDs.dp r e2)
    · cases e
end
theorem RD.dpt {d : D} {v : V} {p : PyData} (r : Rep g ρ M H) (h : RD g ρ H d v) (e : (d.top M).py = some p) : Dp g.K H v p := by
  cases h with
  | @obj n a h =>
    obtain ⟨c, hc, ok⟩ := r.at_ h
    cases c with
    | lst l =>
      simp only [D.top, hc, D.py, Option.map_eq_some_iff] at e
      obtain ⟨q, e, rfl⟩ := e
      obtain ⟨vs, h1, h2⟩ := ok
      exact .lst (SqL.of h1) (RDs.dp h2 e)
    | dct _ => simp [D.top, hc, D.py] at e
  | non => exact RD.dp (ρ := ρ) .non e
  | bl b => exact RD.dp (ρ := ρ) (.bl b) e
  | int b => exact RD.dp (ρ := ρ) (.int b) e
  | str b => exact RD.dp (ρ := ρ) (.str b) e
  | tup h r => exact RD.dp (.tup h r) e
  | wtp n h r => exact RD.dp (.wtp n h r) e
  | lst n h r => exact RD.dp (.lst n h r) e
  | rol h r => exact RD.dp (.rol h r) e
  | dct a z b c d e' => exact RD.dp (.dct a z b c d e') e
  | fn a b => exact RD.dp (ρ := ρ) (.fn a b) e
  | ty n => exact RD.dp (ρ := ρ) (.ty n) e
theorem flat_V {d : D} {v : V} (h : RD g ρ H d v) (f : d.flat = true) : flatV v = true := by cases h <;> first | rfl | (simp [D.flat] at f)
theorem flat_eq {d e : D} {v u : V} (h : RD g ρ H d v) (k : RD g ρ H e u) (f : d.flat = true) (f' : e.flat = true) : eqV v u = eqD d e := by
  cases h <;> first
    | (exact absurd f Bool.false_ne_true)
    | (cases k <;> first | (exact absurd f' Bool.false_ne_true) | rfl)
theorem flat_in {x : D} {v : V} (h : RD g ρ H x v) (f : x.flat = true) : ∀ {l : List D} {vs : List V}, RDs g ρ H l vs → l.all D.flat = true → vs.all flatV = true ∧ inV v vs = inD x l
  | _, _, .nil, _ => ⟨rfl, rfl⟩
  | _, _, .cons a r, e => by
    simp only [List.all_cons, Bool.and_eq_true] at e
    obtain ⟨h1, h2⟩ := flat_in h f r e.2
    refine ⟨by simp [flat_V a e.1, h1], ?_⟩
    show (eqV _ v || inV v _) = (eqD _ x || inD x _)
    rw [h2, flat_eq a h e.1 f]
end
section
variable {X : Cx}
theorem op_cmpD (hu : X.A.units + 64 < cLine) (op : CmpOp) : OpR X (compareOp op) (rOp2 (gx X) (cmpD op)) := by
  intro pins s σ H x y v u Q I rx ry h
  obtain ⟨ρ, M, d, e, rep, rd, re, h⟩ := h
  have go : ∀ {r : R2}, OpR X (compareOp op) r → r x y H Q → wpAny (model X.prog X.w) X.A (compareOp op v u) (EP X pins σ Q) X.xe s := fun o q => o pins s σ H x y v u Q I rx ry q
  have eqs : ∀ neg : Bool, eqOk (d.top M) (e.top M) = true → Q (.bl (neg != eqD (d.top M) (e.top M))) H → wpAny (model X.prog X.w) X.A (compareOp (if neg then .NotEq else .Eq) v u) (EP X pins σ Q) X.xe s := by
    intro neg ok q
    have dd : ∃ p q, (d.top M).py = some p ∧ (e.top M).py = some q ∧ p.canLay0 = true ∧ q.canLay0 = true ∧ PyData.eqv p q = eqD (d.top M) (e.top M) ∧ min p.depth q.depth ≤ 60 := by
      unfold eqOk at ok
      simp only [Bool.or_eq_true, Bool.and_eq_true] at ok
      rcases ok with ⟨h1, h2⟩ | ⟨h1, h2⟩
      · obtain ⟨a1, a2⟩ := sh_pl h1
        obtain ⟨p, hp, lp⟩ := pl_py a1
        obtain ⟨q, hq, lq⟩ := pl_py h2
        exact ⟨p, q, hp, hq, lp, lq, eqD_py a1 h2 hp hq, Nat.le_trans (Nat.min_le_left _ _) (a2 _ hp)⟩
      · obtain ⟨a1, a2⟩ := sh_pl h2
        obtain ⟨p, hp, lp⟩ := pl_py h1
        obtain ⟨q, hq, lq⟩ := pl_py a1
        exact ⟨p, q, hp, hq, lp, lq, eqD_py h1 a1 hp hq, Nat.le_trans (Nat.min_le_right _ _) (a2 _ hq)⟩
    obtain ⟨p, p', hp, hp', lp, lp', ee, dp⟩ := dd
    obtain ⟨as, r1⟩ := Dp.reads I p x v (RD.dpt rep rd hp) rx
    obtain ⟨bs, r2⟩ := Dp.reads I p' y u (RD.dpt rep re hp') ry
    have hu' : X.A.units + min p.depth p'.depth < cLine := by omega
    cases neg with
    | false => exact SeqAt.compareEq_reads r1 r2 lp lp' hu' ⟨.bl _, H, I, rfl, by rw [ee]; simpa using q⟩
    | true => exact SeqAt.compareNe_reads r1 r2 lp lp' hu' ⟨.bl _, H, I, rfl, by rw [ee]; simpa using q⟩
  have ins : ∀ neg : Bool, Post (gx X) ρ H (cmpIn neg d e M) (QV (gx X) Q) → wpAny (model X.prog X.w) X.A (compareOp (if neg then .NotIn else .In) v u) (EP X pins σ Q) X.xe s := by
    intro neg h
    unfold cmpIn at h
    split at h
    · exact h.no.elim
    · exact h.no.elim
    · split at h
      · rename_i l hl
        split at h
        · rename_i hf
          simp only [Bool.and_eq_true] at hf
          obtain ⟨a, vs, rfl, hs, q⟩ := seqOf_ok rep re hl
          obtain ⟨f1, f2⟩ := flat_in rd hf.1 q hf.2
          have q' := h.here rep _ (.bl _)
          cases neg with
          | false => exact op_in_seq pins s σ H x _ v u Q I rx ry ⟨a, vs, rfl, hs, flat_V rd hf.1, f1, by rw [f2]; simpa using q'⟩
          | true => exact op_notIn_seq pins s σ H x _ v u Q I rx ry ⟨a, vs, rfl, hs, flat_V rd hf.1, f1, by rw [f2]; simpa using q'⟩
        · exact h.no.elim
      · exact h.no.elim
  unfold cmpD at h
  split at h
  · unfold isD at h
    split at h
    · cases rd; cases re
      exact go op_is_bl ⟨_, _, rfl, rfl, by simpa using h.here rep _ (.bl _)⟩
    · exact h.no.elim
  · unfold isD at h
    split at h
    · cases rd; cases re
      exact go op_isnot_bl ⟨_, _, rfl, rfl, by simpa using h.here rep _ (.bl _)⟩
    · exact h.no.elim
  · split at h
    · rename_i b hb
      unfold emptyT at hb
      split at hb
      · cases hb
        obtain ⟨a1, vs, rfl, ha, qa⟩ := RD_tup rd
        obtain ⟨a2, us, rfl, hb, qb⟩ := RD_tup re
        cases qb
        cases rx; cases ry
        obtain ⟨i1, r1, t1, z1⟩ := I.tuple ha
        obtain ⟨i2, r2, t2, z2⟩ := I.tuple hb
        cases r2
        refine SeqAt.eq_tupleAt (e := fun _ => true) t1 t2 (by omega) (fun j _ h2 => absurd h2 (by simp)) ?_
        refine ⟨.bl _, H, I, ?_, h.here rep _ (.bl _)⟩
        show Value.bool _ = Value.bool _
        congr 1
        have e1 := qa.length
        have e2 := r1.length
        simp only [List.size_toArray, List.length_nil, Nat.min_zero, List.range_zero, List.all_nil, Bool.true_and, ← e2, ← e1]
        rename_i l
        cases l <;> rfl
      · cases hb
        cases rd; cases re
        obtain ⟨t1, rfl⟩ := rx
        obtain ⟨t2, rfl⟩ := ry
        rename_i a b
        refine SeqAt.RcAt.str_str a t1 b t2 X.prog X.w _ _ ⟨.bl _, H, I, ?_, h.here rep _ (.bl _)⟩
        show Value.bool _ = Value.bool _
        congr 1
      · cases hb
    · unfold cmpEq at h
      split at h
      · rename_i ok; exact eqs false ok (h.here rep _ (.bl _))
      · exact h.no.elim
  · unfold cmpEq at h
    split at h
    · rename_i ok; exact eqs true ok (h.here rep _ (.bl _))
    · exact h.no.elim
  · exact ins false h
  · exact ins true h
  · split at h
    · cases rd; cases re
      split at h
      · rename_i b hb
        unfold cmpI at hb
        split at hb
        · cases hb; exact go op_lt ⟨_, _, rfl, rfl, h.here rep _ (.bl _)⟩
        · cases hb; exact go op_le ⟨_, _, rfl, rfl, h.here rep _ (.bl _)⟩
        · cases hb; exact go op_gt ⟨_, _, rfl, rfl, h.here rep _ (.bl _)⟩
        · cases hb; exact go op_ge ⟨_, _, rfl, rfl, h.here rep _ (.bl _)⟩
        · cases hb
      · exact h.no.elim
    · unfold ordD at h
      split at h
      · rename_i p q hp hq
        split at h
        · rename_i ok
          simp only [cmLt, Bool.and_eq_true, decide_eq_true_eq] at ok
          obtain ⟨⟨⟨⟨rfl, o1⟩, o2⟩, o3⟩, o4⟩ := ok
          obtain ⟨as, r1⟩ := Dp.reads I p x v (RD.dpt rep rd hp) rx
          obtain ⟨bs, r2⟩ := Dp.reads I q y u (RD.dpt rep re hq) ry
          exact rcLt_cm r1 r2 o1 o2 o3 (by omega) X.prog X.w _ _ ⟨.bl _, H, I, rfl, h.here rep _ (.bl _)⟩
        split at h
        · rename_i ok
          simp only [Bool.and_eq_true, Bool.not_eq_true', decide_eq_true_eq] at ok
          obtain ⟨⟨o1, o2⟩, o3⟩ := ok
          obtain ⟨as, r1⟩ := Dp.reads I p x v (RD.dpt rep rd hp) rx
          obtain ⟨bs, r2⟩ := Dp.reads I q y u (RD.dpt rep re hq) ry
          have hn : p ≠ .none := fun e => by subst e; cases o2
          have hu' : X.A.units + min p.depth q.depth < cLine := by omega
          split at h
          · rename_i b hb
            have fin := h.here rep _ (.bl _)
            unfold ordP at hb
            split at hb
            · cases hb; exact PySem.W.lt_data r1 r2 o1 hn hu' ⟨.bl _, H, I, rfl, fin⟩
            · cases hb; exact PySem.W.gt_data r1 r2 o1 hn hu' ⟨.bl _, H, I, rfl, fin⟩
            · cases hb; exact PySem.W.le_data r1 r2 o1 hn hu' ⟨.bl _, H, I, rfl, fin⟩
            · cases hb; exact PySem.W.ge_data r1 r2 o1 hn hu' ⟨.bl _, H, I, rfl, fin⟩
            · cases hb
          · exact h.no.elim
        · exact h.no.elim
      · exact h.no.elim

theorem truth_ok {g : Gx} {ρ : Rho} {H : Hp} {M : Mem} {d : D} {v : V} {b : Bool} (r : Rep g ρ M H) (h : RD g ρ H d v) (e : truth M d = some b) : TruV g.K v H b := by
  cases h with
  | non => simp only [truth, Option.some.injEq] at e; subst e; rfl
  | bl x => simp only [truth, Option.some.injEq] at e; subst e; rfl
  | int x => simp only [truth, Option.some.injEq] at e; subst e; rfl
  | str x =>
    simp only [truth] at e
    split at e
    · rename_i hl
      cases e
      refine ⟨LIM_line hl, ?_⟩
      by_cases hz : x.length = 0
      · rw [hz]; rfl
      · rw [bne_iff_ne.mpr hz, bne_iff_ne.mpr (by omega)]
    · cases e
  | tup h q =>
    simp only [truth, Option.some.injEq] at e; subst e
    refine .inr (.inl ⟨_, h.seq, ?_⟩)
    cases q <;> rfl
  | lst n h q =>
    simp only [truth, Option.some.injEq] at e; subst e
    refine .inl ⟨_, SqL.of h, ?_⟩
    cases q <;> rfl
  | rol h q =>
    simp only [truth, Option.some.injEq] at e; subst e
    refine .inl ⟨_, h.seq, ?_⟩
    cases q <;> rfl
  | @obj n a h =>
    obtain ⟨c, hc, ok⟩ := r.at_ h
    cases c with
    | lst l =>
      simp only [truth, hc, Option.some.injEq] at e; subst e
      obtain ⟨vs, h1, q⟩ := ok
      refine .inl ⟨_, SqL.of h1, ?_⟩
      cases q <;> rfl
    | dct _ => simp [truth, hc] at e
  | _ => simp [truth] at e
theorem atI_RDs {g : Gx} {ρ : Rho} {H : Hp} {l : List D} {vs : List V} {i : Int} {d : D} (q : RDs g ρ H l vs) (e : atI l i = some d) : ∃ v, atI vs i = some v ∧ RD g ρ H d v := by
  unfold atI at e ⊢
  rw [← q.length]
  obtain ⟨j, h1, h2⟩ := Option.bind_eq_some_iff.mp e
  obtain ⟨v, h3, h4⟩ := q.get h2
  exact ⟨v, by rw [h1]; exact h3, h4⟩
theorem ix_S : IxR X (rOp2 (gx X) idxS) := by
  intro value slice pins s σ H x y v u Q I rx ry h hs
  obtain ⟨ρ, M, d, e, rep, rd, re, h⟩ := h
  unfold idxS at h
  split at h
  · cases re
    split at h
    · rename_i l hl
      unfold atD at h
      split at h
      · rename_i z hz
        obtain ⟨a, vs, rfl, hs2, q⟩ := seqOf_ok rep rd hl
        obtain ⟨w, h1, h2⟩ := atI_RDs q hz
        have q' := h.here rep _ h2
        rcases hs2 with hs2 | hs2
        · exact ix_list value slice pins s σ H _ _ v u Q I rx ry ⟨a, vs, _, w, rfl, rfl, hs2, h1, q'⟩ hs
        · exact ix_tup value slice pins s σ H _ _ v u Q I rx ry ⟨a, vs, _, w, rfl, rfl, hs2, h1, q'⟩ hs
      · exact h.no.elim
    · exact h.no.elim
  · exact h.no.elim
theorem cutL_RDs {g : Gx} {ρ : Rho} {H : Hp} {l : List D} {vs : List V} (lo hi : Option Int) (q : RDs g ρ H l vs) : RDs g ρ H (cutL l lo hi) (cutV vs lo hi) := by
  unfold cutL cutV
  rw [q.length]
  exact (q.drop _).take _
def rSl (g : Gx) : V → Option Int → Option Int → Hp → VK → Prop := fun x lo hi H Q => ∃ ρ M d, Rep g ρ M H ∧ RD g ρ H d x ∧ Post g ρ H (sliD d lo hi M) (QV g Q)
theorem cutL_whole {α : Type} {l : List α} {lo hi : Option Int} (h : HT.sIx l.length 0 lo = 0 ∧ HT.sIx l.length l.length hi = l.length) : cutL l lo hi = l := by
  unfold cutL
  rw [h.1, h.2]; simp
theorem sl_D : SlR X (rSl (gx X)) := by
  intro pins s σ H x v vl vu lo hi sl Q I rx hs pl pu h
  obtain ⟨ρ, M, d, rep, rd, h⟩ := h
  unfold sliD at h
  split at h
  · obtain ⟨a, vs, rfl, ha, q⟩ := RD_tup rd
    refine sl_tupD pins s σ H _ v vl vu lo hi sl Q I rx hs pl pu ⟨a, vs, rfl, ha, fun hw => ?_, fun p its hp => new_tup rep (cutL_RDs lo hi q) h hp⟩
    rw [← q.length] at hw
    rw [cutL_whole hw] at h
    exact h.here rep _ rd
  · split at h
    · rename_i l hl
      obtain ⟨a, vs, rfl, ha, q⟩ := lrOf_ok rep rd hl
      exact sl_list pins s σ H _ v vl vu lo hi sl Q I rx hs pl pu ⟨a, vs, rfl, ha, fun p hp => new_lst rep (cutL_RDs lo hi q) h hp⟩
    · exact h.no.elim
end
end Ev

set_option Elab.async false
set_option linter.all false
set_option maxRecDepth 100000
set_option maxHeartbeats 1000000
namespace Ev
open PySem PySem.Spec PyProof.Rows L2
def isiS (S T : String) : Option Bool := if T = "int" then some (S = "int" || S = "bool") else if T = "str" ∨ T = "tuple" ∨ T = "list" ∨ T = "bool" ∨ T = "dict" then some (decide (S = T)) else none
def tyL : List String := ["NoneType", "bool", "int", "str", "tuple", "list", "dict"]
def tyR : List String := ["int", "str", "tuple", "list", "bool", "dict"]
theorem kit_all : (tyL.all fun S => tyR.all fun T => decide (kitB S T = isiS S T)) = true := by decide +kernel
theorem kit_of' {K : PySem.W.Frag} {S T : String} {b : Bool} (hS : S ∈ tyL) (e : isiS S T = some b) : PySem.W.kitOne K (.type S) (.type T) = some b := by
  have hT : T ∈ tyR := by
    unfold isiS at e
    split at e
    · rename_i h; subst h; decide
    · split at e
      · rename_i h; rcases h with h | h | h | h | h <;> subst h <;> decide
      · cases e
  have h := List.all_eq_true.mp (List.all_eq_true.mp kit_all S hS) T hT
  exact kit_ty ((of_decide_eq_true h).trans e)
section
variable {X : Cx} {g : Gx} {ρ : Rho} {H : Hp} {M : Mem}
theorem RDs1 {x : D} {vs : List V} (h : RDs g ρ H [x] vs) : ∃ v, vs = [v] ∧ RD g ρ H x v := by
  cases h with | cons a r => cases r; exact ⟨_, rfl, a⟩
theorem RDs2 {x y : D} {vs : List V} (h : RDs g ρ H [x, y] vs) : ∃ v u, vs = [v, u] ∧ RD g ρ H x v ∧ RD g ρ H y u := by
  cases h with | cons a r => cases r with | cons b r => cases r; exact ⟨_, _, rfl, a, b⟩
theorem RDs3 {x y z : D} {vs : List V} (h : RDs g ρ H [x, y, z] vs) : ∃ v u w, vs = [v, u, w] ∧ RD g ρ H x v ∧ RD g ρ H y u ∧ RD g ρ H z w := by
  cases h with | cons a r => cases r with | cons b r => cases r with | cons c r => cases r; exact ⟨_, _, _, rfl, a, b, c⟩
theorem intsD_ok : ∀ {l : List D} {vs : List V} {ns : List Int}, RDs g ρ H l vs → intsD l = some ns → vs = ns.map V.int
  | _, _, _, .nil, e => by cases e; rfl
  | _, _, _, .cons a r, e => by
    cases a <;> simp only [intsD, reduceCtorEq, Option.map_eq_some_iff] at e
    obtain ⟨q, h, rfl⟩ := e
    rw [intsD_ok r h]; rfl
theorem bls_ok : ∀ {l : List D} {vs : List V} {ns : List Bool}, RDs g ρ H l vs → bls l = some ns → vs = ns.map V.bl
  | _, _, _, .nil, e => by cases e; rfl
  | _, _, _, .cons a r, e => by
    cases a <;> simp only [bls, reduceCtorEq, Option.map_eq_some_iff] at e
    obtain ⟨q, h, rfl⟩ := e
    rw [bls_ok r h]; rfl
theorem maxI_mem : ∀ (r : List Int) (m : Int), maxI m r ∈ m :: r ∧ ∀ y ∈ m :: r, y ≤ maxI m r
  | [], m => by simp [maxI]
  | x :: r, m => by
    obtain ⟨h1, h2⟩ := maxI_mem r (if m < x then x else m)
    have a := h2 _ List.mem_cons_self
    refine ⟨?_, fun y hy => ?_⟩
    · simp only [maxI]
      rcases List.mem_cons.mp h1 with h1 | h1
      · rw [h1]; split <;> simp
      · exact List.mem_cons_of_mem _ (List.mem_cons_of_mem _ h1)
    · simp only [maxI]
      rcases List.mem_cons.mp hy with rfl | hy
      · refine Int.le_trans ?_ a; split <;> omega
      · rcases List.mem_cons.mp hy with rfl | hy
        · refine Int.le_trans ?_ a; split <;> omega
        · exact h2 y (List.mem_cons_of_mem _ hy)
theorem minI_mem : ∀ (r : List Int) (m : Int), minI m r ∈ m :: r ∧ ∀ y ∈ m :: r, minI m r ≤ y
  | [], m => by simp [minI]
  | x :: r, m => by
    obtain ⟨h1, h2⟩ := minI_mem r (if x < m then x else m)
    have a := h2 _ List.mem_cons_self
    refine ⟨?_, fun y hy => ?_⟩
    · simp only [minI]
      rcases List.mem_cons.mp h1 with h1 | h1
      · rw [h1]; split <;> simp
      · exact List.mem_cons_of_mem _ (List.mem_cons_of_mem _ h1)
    · simp only [minI]
      rcases List.mem_cons.mp hy with rfl | hy
      · refine Int.le_trans a ?_; split <;> omega
      · rcases List.mem_cons.mp hy with rfl | hy
        · refine Int.le_trans a ?_; split <;> omega
        · exact h2 y (List.mem_cons_of_mem _ hy)
/-- what stands at a value's address, for isinstance -/
theorem kit_D {pins : List (Addr × Obj)} {σ : L2.St} {s : Shared} (I : Inv X pins σ H s) {d : D} {v : V} {u : Value} {S : String} (rep : Rep (gx X) ρ M H) (rd : RD (gx X) ρ H d v) (rv : RelV v u) (e : tyOf M d = some S) :
    S ∈ tyL ∧ ∃ P : Heap → Prop, PySem.W.KitX X.K u (.type S) P ∧ P s.heap ∧ u ≠ .builtin "__main__.__loader__#opaque" := by
  have lst : ∀ {a : Addr} {xs : List V}, SqL X.K H a xs → ∃ P : Heap → Prop, PySem.W.KitX X.K (.ref a) (.type "list") P ∧ P s.heap ∧ (Value.ref a) ≠ .builtin "__main__.__loader__#opaque" := fun h => by
    obtain ⟨its, r, pl, _⟩ := I.list h
    exact ⟨_, PySem.W.kitx_list, pl.isList.typeIs, fun z => nomatch z⟩
  have dct : ∀ {a : Addr} {o : Obj}, AtO (gx X) ρ H a o → o.ExactDict → ∃ P : Heap → Prop, PySem.W.KitX X.K (.ref a) (.type "dict") P ∧ P s.heap ∧ (Value.ref a) ≠ .builtin "__main__.__loader__#opaque" := fun {a o} h hx => by
    refine ⟨_, PySem.W.kitx_dict, ⟨o, ?_, hx.1⟩, fun z => nomatch z⟩
    rcases h with ⟨_, h⟩ | h
    · exact (I.hok a _ h).1
    · exact I.kIn a o h
  cases rd with
  | non => cases e; cases rv; exact ⟨by decide, _, PySem.W.kitx_none, True.intro, fun z => nomatch z⟩
  | bl b => cases e; cases rv; exact ⟨by decide, _, PySem.W.kitx_bool, True.intro, fun z => nomatch z⟩
  | int i => cases e; obtain ⟨t, rfl⟩ := rv; exact ⟨by decide, _, PySem.W.kitx_int, True.intro, fun z => nomatch z⟩
  | str x => cases e; obtain ⟨t, rfl⟩ := rv; exact ⟨by decide, _, PySem.W.kitx_str, True.intro, fun z => nomatch z⟩
  | tup h q =>
    cases e; cases rv
    obtain ⟨its, r, ⟨o, h1, h2, _⟩, _⟩ := I.tuple h.seq
    exact ⟨by decide, _, PySem.W.kitx_tuple, ⟨o, h1, h2⟩, fun z => nomatch z⟩
  | wtp _ _ _ => cases e
  | lst n h q => cases e; cases rv; exact ⟨by decide, lst (SqL.of h)⟩
  | rol h q => cases e; cases rv; exact ⟨by decide, lst h.seq⟩
  | dct h z a b c r => cases e; cases rv; exact ⟨by decide, dct h a⟩
  | @obj n a h =>
    obtain ⟨c, hc, ok⟩ := rep.at_ h
    cases rv
    cases c with
    | lst l =>
      simp only [tyOf, hc, Option.some.injEq] at e; subst e
      obtain ⟨vs, h1, _⟩ := ok
      exact ⟨by decide, lst (SqL.of h1)⟩
    | dct l =>
      simp only [tyOf, hc, Option.some.injEq] at e; subst e
      obtain ⟨o, es, ep, h1, _, h2, _⟩ := ok
      exact ⟨by decide, _, PySem.W.kitx_dict, ⟨o, (I.hok a _ h1).1, h2.1⟩, fun z => nomatch z⟩
  | fn _ _ => cases e
  | ty _ => cases e

mutual
theorem noDict {K : PySem.W.Frag} : ∀ {v : V} {p : PyData}, Dp K H v p → p.hasDict = false
  | _, _, .non => by simp only [PyData.hasDict]
  | _, _, .bl _ => by simp only [PyData.hasDict]
  | _, _, .int _ => by simp only [PyData.hasDict]
  | _, _, .str _ => by simp only [PyData.hasDict]
  | _, _, .lst _ r => by simp only [PyData.hasDict]; exact noDicts r
  | _, _, .tup _ r => by simp only [PyData.hasDict]; exact noDicts r
theorem noDicts {K : PySem.W.Frag} : ∀ {v : List V} {p : List PyData}, DpAll K H v p → PyData.hasDictAll p = false
  | _, _, .nil => by simp only [PyData.hasDictAll]
  | _, _, .cons a r => by simp only [PyData.hasDictAll, noDict a, noDicts r, Bool.or_self]
end
theorem repr_D {pins : List (Addr × Obj)} {σ : L2.St} {s : Shared} {v : V} {u : Value} {p : PyData} {Q : VK} (I : Inv X pins σ H s) (hu : X.A.units + 64 < cLine) (hg : X.A.guards = some []) (dp : Dp X.K H v p) (rv : RelV v u)
    (h1 : p.showable = true) (h2 : p.depth ≤ 60) (h3 : p.shown.length ≤ LIM) (q : Q (.str p.shown) H) : wpAny (model X.prog X.w) X.A (PySem.call (.builtin "repr") [u]) (EP X pins σ Q) X.xe s := by
  obtain ⟨as, rds⟩ := Dp.reads I p v u dp rv
  have nd : p.hasDict = true → sysModules ∉ as := fun hd => by rw [noDict dp] at hd; cases hd
  have big : ∀ {a : Addr}, u = .ref a → wpAny (model X.prog X.w) X.A (PySem.call (.builtin "repr") [u]) (EP X pins σ Q) X.xe s := fun {a} e => by
    subst e
    exact repr_of_reads' rds h1 nd hg (by omega) (fun _ _ e => e) (fun h' t tk hk => ⟨.str _, H, I.kept hk, ⟨_, rfl⟩, q⟩) (LIM_line h3)
  cases dp with
  | non => cases rv; exact PySem.P.repr_of_none ⟨.str _, H, I.tok _, ⟨_, rfl⟩, by simpa only [PyData.shown] using q⟩
  | bl b => cases rv; exact PySem.P.repr_of_bool ⟨.str _, H, I.tok _, ⟨_, rfl⟩, by simpa only [PyData.shown] using q⟩
  | int i => obtain ⟨t, rfl⟩ := rv; exact PySem.P.repr_of_int (by simpa only [PyData.showable, decide_eq_true_eq] using h1) ⟨.str _, H, I.tok _, ⟨_, rfl⟩, by simpa only [PyData.shown] using q⟩
  | str x => obtain ⟨t, rfl⟩ := rv; exact PySem.P.repr_of_str ⟨.str _, H, I.tok _, ⟨_, rfl⟩, by simpa only [PyData.shown] using q⟩ (by simpa only [PyData.shown] using LIM_line h3)
  | lst _ _ => exact big rv
  | tup _ _ => exact big rv

end
end Ev

set_option Elab.async false
set_option linter.all false
set_option maxRecDepth 100000
set_option maxHeartbeats 1000000
namespace Ev
open PySem PySem.Spec PyProof.Rows L2
/-! ### dicts whose keys are whole numbers and texts -/
def lkey : D → Option Key
  | .int i => some (.inl i)
  | .str s => some (.inr s)
  | _ => none
section
variable {g : Gx} {ρ : Rho} {H : Hp} {M : Mem}
theorem leaf_key {k : D} {v : V} {u : Value} (h : k.leaf = true) (r : RD g ρ H k v) (q : RelV v u) : ∃ κ, lkey k = some κ ∧ keyIs κ u = true ∧ ∀ {k' : D} {κ' : Key}, lkey k' = some κ' → keyIs κ' u = decide (k.nk = k'.nk) := by
  cases r <;> first | (exact absurd h Bool.false_ne_true) | skip
  · obtain ⟨t, rfl⟩ := q
    refine ⟨_, rfl, keyIs_int _ _, fun {k' κ'} e => ?_⟩
    cases k' <;> cases e
    · simp only [keyIs, Value.isInt, D.nk, NestedKey.num.injEq] <;> rfl
    · simp [keyIs, Value.isStrOf, D.nk]
  · obtain ⟨t, rfl⟩ := q
    refine ⟨_, rfl, keyIs_str _ _, fun {k' κ'} e => ?_⟩
    cases k' <;> cases e
    · simp [keyIs, Value.isInt, D.nk]
    · simp only [keyIs, Value.isStrOf, D.nk, NestedKey.text.injEq] <;> rfl
theorem leaf_find {k : D} {κ : Key} (hk : lkey k = some κ) : ∀ {kvs : List (D × D)} {es : List DictEntry}, RDe g ρ H kvs es → (∀ p ∈ kvs, p.1.leaf = true) →
    match kget kvs k with
    | some d => ∃ u v, (es.find? fun e => keyIs κ e.key).map (·.val) = some u ∧ RelV v u ∧ RD g ρ H d v
    | none => (es.find? fun e => keyIs κ e.key).map (·.val) = none
  | _, _, .nil, _ => rfl
  | _, _, .cons (k := k1) (v := v1) (e := e1) (kvs := kvs) (es := es) r1 q1 h1 r2 q2 r, hl => by
    obtain ⟨κ1, _, _, h3⟩ := leaf_key (hl _ List.mem_cons_self) r1 q1
    have e3 := h3 hk
    by_cases e : k1.nk = k.nk
    · have e4 : kget ((k1, v1) :: kvs) k = some v1 := by simp [kget, e]
      rw [e4]
      refine ⟨e1.val, _, ?_, q2, r2⟩
      rw [List.find?_cons_of_pos (by rw [e3]; simp [e])]; rfl
    · have e4 : kget ((k1, v1) :: kvs) k = kget kvs k := by simp [kget, e]
      rw [e4, List.find?_cons_of_neg (by rw [e3]; simp [e])]
      exact leaf_find hk r fun p hp => hl p (List.mem_cons_of_mem _ hp)
theorem leaf_keysOf {P : Program} {w : World} (hw : g.w = w) : ∀ {kvs : List (D × D)} {es : List DictEntry}, RDe g ρ H kvs es → (∀ p ∈ kvs, p.1.leaf = true) → ∀ e ∈ es, ∃ k, (mixKind P w).is k e.key = true ∧ e.hash = (mixKind P w).hash k
  | _, _, .nil, _, e, h => by cases h
  | _, _, .cons r1 q1 h1 r2 q2 r, hl, e, h => by
    rcases List.mem_cons.mp h with rfl | h
    · obtain ⟨κ1, h2, h3, _⟩ := leaf_key (hl _ List.mem_cons_self) r1 q1
      refine ⟨κ1, h3, ?_⟩
      rw [h1, hw]
      revert h2
      cases r1 <;> intro h2 <;> cases h2 <;> rfl
    · exact leaf_keysOf hw r (fun p hp => hl p (List.mem_cons_of_mem _ hp)) e h
end
section
variable {X : Cx} {pins : List (Addr × Obj)} {σ : L2.St} {s : Shared} {ρ : Rho} {H : Hp} {M : Mem}
theorem AtO.at_ {a : Addr} {o : Obj} (I : Inv X pins σ H s) (h : AtO (gx X) ρ H a o) : s.heap.get? a = some o := by
  rcases h with ⟨_, h⟩ | h
  · exact (I.hok a _ h).1
  · exact I.kIn a o h
theorem leaf_map {a : Addr} {o : Obj} {es : Array DictEntry} {ep : Nat} {kvs : List (D × D)} (ho : s.heap.get? a = some o) (hx : o.ExactDict) (hd : o.data = .dict es ep) (r : RDe (gx X) ρ H kvs es.toList) (hl : ∀ p ∈ kvs, p.1.leaf = true) :
    s.heap.MapOf (mixKind X.prog X.w) a (findBy keyIs es) :=
  ⟨o, es, ep, ho, hx, hd, fun e he => leaf_keysOf rfl r hl e (by simpa using he), fun k => rfl⟩
end

end Ev

set_option Elab.async false
set_option linter.all false
set_option maxRecDepth 100000
set_option maxHeartbeats 1000000
/-! Ev4b: dicts whose keys are data tuples. -/
namespace Ev
open PySem PySem.Spec PyProof.Rows L2 PySem.W
section
variable {X : Cx} {pins : List (Addr × Obj)} {σ : L2.St} {s : Shared} {ρ : Rho} {H : Hp}
mutual
theorem RD.nested (I : Inv X pins σ H s) : ∀ {d : D} {v : V} {u : Value} {n : Nat}, RD (gx X) ρ H d v → RelV v u → d.tkey n = true → NestedIs s.heap d.nk u
  | .int i, _, u, n, .int _, r, _ => by obtain ⟨t, rfl⟩ := r; simp only [D.nk]; exact .int i t
  | .str x, _, u, n, .str _, r, _ => by obtain ⟨t, rfl⟩ := r; simp only [D.nk]; exact .text x t
  | .tup l, _, u, n, .tup h q, r, k => by
    cases r
    cases n with
    | zero => simp [D.tkey] at k
    | succ n =>
      simp only [D.tkey] at k
      obtain ⟨its, rv, ⟨o, e, hc, m, hd⟩, _⟩ := I.tuple h.seq
      simp only [D.nk]
      exact .tup e hc hd (by simpa using RDs.nested I q rv k)
  | .non, _, _, n, _, _, k => by cases n <;> simp [D.tkey] at k
  | .bl _, _, _, n, _, _, k => by cases n <;> simp [D.tkey] at k
  | .wtp _, _, _, n, _, _, k => by cases n <;> simp [D.tkey] at k
  | .lst _, _, _, n, _, _, k => by cases n <;> simp [D.tkey] at k
  | .rol _, _, _, n, _, _, k => by cases n <;> simp [D.tkey] at k
  | .dct _, _, _, n, _, _, k => by cases n <;> simp [D.tkey] at k
  | .obj _, _, _, n, _, _, k => by cases n <;> simp [D.tkey] at k
  | .fn _, _, _, n, _, _, k => by cases n <;> simp [D.tkey] at k
  | .ty _, _, _, n, _, _, k => by cases n <;> simp [D.tkey] at k
theorem RDs.nested (I : Inv X pins σ H s) : ∀ {l : List D} {vs : List V} {us : List Value} {n : Nat}, RDs (gx X) ρ H l vs → Vals vs us → tkeys n l = true → NestedAll s.heap (nks l) us
  | [], _, _, _, .nil, .nil, _ => by simp only [nks]; exact .nil
  | _ :: _, _, _, _, .cons a b, .cons c d, k => by
    simp only [tkeys, Bool.and_eq_true] at k
    simp only [nks]
    exact .cons (RD.nested I a c k.1) (RDs.nested I b d k.2)
end
mutual
theorem nk_depth : ∀ {d : D} {n : Nat}, d.tkey n = true → d.nk.depth ≤ n
  | .int i, n, _ => by simp [D.nk, NestedKey.depth]
  | .str x, n, _ => by simp [D.nk, NestedKey.depth]
  | .tup l, n, k => by
    cases n with
    | zero => simp [D.tkey] at k
    | succ n =>
      simp only [D.tkey] at k
      simp only [D.nk, NestedKey.depth]
      exact Nat.succ_le_succ (nks_depth k)
  | .non, n, k => by cases n <;> simp [D.tkey] at k
  | .bl _, n, k => by cases n <;> simp [D.tkey] at k
  | .wtp _, n, k => by cases n <;> simp [D.tkey] at k
  | .lst _, n, k => by cases n <;> simp [D.tkey] at k
  | .rol _, n, k => by cases n <;> simp [D.tkey] at k
  | .dct _, n, k => by cases n <;> simp [D.tkey] at k
  | .obj _, n, k => by cases n <;> simp [D.tkey] at k
  | .fn _, n, k => by cases n <;> simp [D.tkey] at k
  | .ty _, n, k => by cases n <;> simp [D.tkey] at k
theorem nks_depth : ∀ {l : List D} {n : Nat}, tkeys n l = true → NestedKey.depthAll (nks l) ≤ n
  | [], n, _ => by simp [nks, NestedKey.depthAll]
  | d :: r, n, k => by
    simp only [tkeys, Bool.and_eq_true] at k
    simp only [nks, NestedKey.depthAll]
    have h1 := nk_depth k.1
    have h2 := nks_depth k.2
    omega
end
end
section
variable {X : Cx} {pins : List (Addr × Obj)} {σ : L2.St} {s : Shared} {ρ : Rho} {H : Hp}
/-- an entry: its key, where the key lies, its value -/
def Ent (g : Gx) (ρ : Rho) (H : Hp) (p : D × D) (x : NestedKey × Addr × Value) : Prop := x.1 = p.1.nk ∧ RD g ρ H p.1 (.ref x.2.1) ∧ ∃ v, RD g ρ H p.2 v ∧ RelV v x.2.2
/-- the entries of such a dict, as the library has them -/
theorem tk_entries (I : Inv X pins σ H s) : ∀ {kvs : List (D × D)} {es : List DictEntry}, RDe (gx X) ρ H kvs es → (∀ p ∈ kvs, p.1.tk = true) →
    ∃ xs : List (NestedKey × Addr × Value), es = xs.map (entryOfKey (nestedKind X.prog X.w)) ∧ (∀ x ∈ xs, (nestedKind X.prog X.w).is s.heap x.1 x.2.1) ∧ xs.map (·.1) = kvs.map (fun p => p.1.nk) ∧ Paired (Ent (gx X) ρ H) kvs xs
  | _, _, .nil, _ => ⟨[], rfl, fun _ h => (nomatch h), rfl, .nil⟩
  | _, _, .cons (k := k) (v := v) (e := e) (kvs := kvs) (es := es) r1 q1 h1 r2 q2 r, hl => by
    obtain ⟨xs, i1, i2, i3, i4⟩ := tk_entries I r fun p hp => hl p (List.mem_cons_of_mem _ hp)
    have hk := hl _ List.mem_cons_self
    dsimp only at hk
    unfold D.tk at hk
    simp only [Bool.and_eq_true] at hk
    cases k with
    | tup l =>
      obtain ⟨hs, ek, ev⟩ := e
      dsimp only at q1 h1 q2
      have nk := RD.nested I r1 q1 hk.2
      have r1' := r1
      cases r1
      rename_i a vs ha hq
      cases q1
      refine ⟨((D.tup l).nk, a, ev) :: xs, ?_, ?_, ?_, .cons ⟨rfl, r1', _, r2, q2⟩ i4⟩
      · rw [i1, List.map_cons, h1]; rfl
      · intro x hx
        rcases List.mem_cons.mp hx with rfl | hx
        · exact ⟨nk, nk_depth hk.2⟩
        · exact i2 x hx
      · rw [List.map_cons, List.map_cons, i3]
    | _ => simp [D.isTup] at hk
theorem tk_get {kvs : List (D × D)} {xs : List (NestedKey × Addr × Value)} (h : xs.map (·.1) = kvs.map fun p => p.1.nk) (hp : Paired (Ent (gx X) ρ H) kvs xs) (k : D) :
    match kget kvs k with
    | some d => ∃ u v, valueAt (pairsH xs) k.nk = some u ∧ RelV v u ∧ RD (gx X) ρ H d v
    | none => valueAt (pairsH xs) k.nk = none := by
  induction hp with
  | nil => rfl
  | @cons p x kvs xs q _ ih =>
    obtain ⟨a, b⟩ := p
    obtain ⟨c, d, e⟩ := x
    simp only [List.map_cons, List.cons.injEq] at h
    obtain ⟨h1, h2⟩ := h
    have ih := ih h2
    by_cases hk : a.nk = k.nk
    · have e1 : kget ((a, b) :: kvs) k = some b := by simp [kget, hk]
      rw [e1]
      obtain ⟨_, _, v, r1, r2⟩ := q
      exact ⟨e, v, by simp [valueAt, pairsH, h1, hk], r2, r1⟩
    · have e1 : kget ((a, b) :: kvs) k = kget kvs k := by simp [kget, hk]
      have e2 : valueAt (pairsH ((c, d, e) :: xs)) k.nk = valueAt (pairsH xs) k.nk := by simp [valueAt, pairsH, h1, hk]
      rw [e1, e2]
      exact ih
/-- such a dict for the library -/
theorem tk_dict (I : Inv X pins σ H s) {a : Addr} {o : Obj} {es : Array DictEntry} {ep : Nat} {kvs : List (D × D)} (ho : s.heap.get? a = some o) (hx : o.ExactDict) (hd : o.data = .dict es ep) (r : RDe (gx X) ρ H kvs es.toList) (hl : ∀ p ∈ kvs, p.1.tk = true) (nd : (kvs.map fun p => p.1.nk).Nodup) :
    ∃ xs : List (NestedKey × Addr × Value), s.heap.DictOfH (nestedKind X.prog X.w) a xs ∧ xs.map (·.1) = kvs.map (fun p => p.1.nk) ∧ Paired (Ent (gx X) ρ H) kvs xs := by
  obtain ⟨xs, e1, e2, e3, e4⟩ := tk_entries I r hl
  exact ⟨xs, ⟨o, es, ep, ho, hx, hd, e1, e2, by rw [e3]; exact nd⟩, e3, e4⟩
theorem tk_ref {k : D} {v : V} {u : Value} (h : k.tk = true) (r : RD (gx X) ρ H k v) (q : RelV v u) : ∃ a, u = .ref a := by
  cases r <;> first | (simp [D.tk, D.isTup] at h; done) | skip
  cases q
  exact ⟨_, rfl⟩
theorem tk_is (I : Inv X pins σ H s) {k : D} {v : V} {a : Addr} (h : k.tk = true) (r : RD (gx X) ρ H k v) (q : RelV v (.ref a)) : (nestedKind X.prog X.w).is s.heap k.nk a := by
  unfold D.tk at h
  simp only [Bool.and_eq_true] at h
  exact ⟨RD.nested I r q h.2, nk_depth h.2⟩
/-- d.get(k, x) -/
theorem tk_getOr (I : Inv X pins σ H s) (hu : X.A.units + 64 < cLine) {a : Addr} {o : Obj} {es : Array DictEntry} {ep : Nat} {kvs : List (D × D)} (ho : s.heap.get? a = some o) (z : (a == sysModules) = false) (hx : o.ExactDict) (hd : o.data = .dict es ep) (ok : DOk kvs) (r : RDe (gx X) ρ H kvs es.toList)
    {k : D} {vk : V} {uk ud : Value} (hk : k.tk = true) (hl : ∀ p ∈ kvs, p.1.tk = true) (rk : RD (gx X) ρ H k vk) (qk : RelV vk uk) {Q : Value → Shared → Prop}
    (h : ∀ u t, (match kget kvs k with
      | some d => ∃ v, RelV v u ∧ RD (gx X) ρ H d v
      | none => u = ud) → Q u { s with toks := t }) : wpAny (model X.prog X.w) X.A (call (.builtin "dict.get") [.ref a, uk, ud]) Q X.xe s := by
  obtain ⟨ak, rfl⟩ := tk_ref hk rk qk
  obtain ⟨xs, dx, e3, e4⟩ := tk_dict I ho hx hd r hl ok.2
  refine getOr_keyed (knd := nestedKind X.prog X.w) (kvs := pairsH xs) (show X.A.units + 1 + 8 < cLine by omega) (tk_is I hk rk qk) z ⟨xs, dx, rfl⟩ (h _ _ ?_)
  have g := tk_get e3 e4 k
  split
  · rename_i d hd'
    rw [hd'] at g
    obtain ⟨u, v, g1, g2, g3⟩ := g
    rw [g1]
    exact ⟨v, g2, g3⟩
  · rename_i hd'
    rw [hd'] at g
    have g : valueAt (pairsH xs) k.nk = none := g
    rw [g]; rfl
theorem atKey_any {kvs : List (D × D)} {xs : List (NestedKey × Addr × Value)} (hp : Paired (Ent (gx X) ρ H) kvs xs) (k : NestedKey) : (atKey xs k).isSome = kvs.any (fun p => decide (p.1.nk = k)) := by
  induction hp with
  | nil => rfl
  | @cons p x kvs xs q _ ih =>
    obtain ⟨c, d, e⟩ := x
    have q1 : c = p.1.nk := q.1
    by_cases h : p.1.nk = k
    · simp [atKey, q1, h]
    · have : (atKey ((c, d, e) :: xs) k) = atKey xs k := by simp [atKey, q1, h]
      rw [this, ih]; simp [h]
theorem put_rel {kvs : List (D × D)} {xs : List (NestedKey × Addr × Value)} (hp : Paired (Ent (gx X) ρ H) kvs xs) {k d : D} {v : V} {u : Value} (rv : RD (gx X) ρ H d v) (qv : RelV v u) :
    Paired (Ent (gx X) ρ H) (kvs.map fun p => if p.1.nk = k.nk then (p.1, d) else p) (xs.map (putAt k.nk u)) := by
  induction hp with
  | nil => exact .nil
  | @cons p x kvs xs q _ ih =>
    refine .cons ?_ ih
    obtain ⟨c, b, e⟩ := x
    have q1 : c = p.1.nk := q.1
    by_cases h : p.1.nk = k.nk
    · have e1 : putAt k.nk u (c, b, e) = (c, b, u) := by simp [putAt, q1, h]
      dsimp only
      rw [if_pos h, e1]
      exact ⟨q1, q.2.1, v, rv, qv⟩
    · have e1 : putAt k.nk u (c, b, e) = (c, b, e) := by simp [putAt, q1, h]
      dsimp only
      rw [if_neg h, e1]
      exact q
theorem app_rel {kvs : List (D × D)} {xs : List (NestedKey × Addr × Value)} (hp : Paired (Ent (gx X) ρ H) kvs xs) {p : D × D} {x : NestedKey × Addr × Value} (h : Ent (gx X) ρ H p x) : Paired (Ent (gx X) ρ H) (kvs ++ [p]) (xs ++ [x]) := by
  induction hp with
  | nil => exact .cons h .nil
  | cons q _ ih => exact .cons q ih
theorem set_rel {kvs : List (D × D)} {xs : List (NestedKey × Addr × Value)} (hp : Paired (Ent (gx X) ρ H) kvs xs) {k d : D} {v : V} {u : Value} {a : Addr} (rk : RD (gx X) ρ H k (.ref a)) (rv : RD (gx X) ρ H d v) (qv : RelV v u) :
    Paired (Ent (gx X) ρ H) (kset kvs k d) (storedH xs k.nk a u) := by
  unfold kset storedH
  rw [atKey_any hp]
  split
  · exact put_rel hp rv qv
  · exact app_rel hp ⟨rfl, rk, v, rv, qv⟩
theorem ent_rde {kvs : List (D × D)} {xs : List (NestedKey × Addr × Value)} (hp : Paired (Ent (gx X) ρ H) kvs xs) : RDe (gx X) ρ H kvs (xs.map (entryOfKey (nestedKind X.prog X.w))) := by
  induction hp with
  | nil => exact .nil
  | @cons p x kvs xs q _ ih =>
    obtain ⟨a, b⟩ := p
    obtain ⟨c, d, e⟩ := x
    obtain ⟨q1, q2, v, q3, q4⟩ := q
    refine .cons q2 rfl ?_ q3 q4 ih
    show NestedKey.hash X.w c = _
    rw [show c = a.nk from q1]; rfl
theorem ent_keys {kvs : List (D × D)} {xs : List (NestedKey × Addr × Value)} (hp : Paired (Ent (gx X) ρ H) kvs xs) : xs.map (·.1) = kvs.map fun p => p.1.nk := by
  induction hp with
  | nil => rfl
  | cons q _ ih => rw [List.map_cons, List.map_cons, ih, q.1]
theorem kset_tk {kvs : List (D × D)} {k d : D} (h : ∀ p ∈ kvs, p.1.tk = true) (hk : k.tk = true) : ∀ p ∈ kset kvs k d, p.1.tk = true := by
  unfold kset
  split
  · intro p hp
    obtain ⟨q, hq, rfl⟩ := List.mem_map.mp hp
    split <;> exact h q hq
  · intro p hp
    rcases List.mem_append.mp hp with hp | hp
    · exact h p hp
    · rw [List.mem_singleton] at hp; rw [hp]; exact hk
/-- c[k] = v, c a cell that is such a dict -/
theorem tk_set {M : Mem} (I : Inv X pins σ H s) (rep : Rep (gx X) ρ M H) (hu : X.A.units + 64 < cLine) {n : Nat} {a : Addr} {kvs : List (D × D)} (h1 : ρ.c[n]? = some a) (hc : M[n]? = some (.dct kvs)) {k d : D} {vk v : V} {uk u : Value}
    (hk : k.tk = true) (hl : ∀ p ∈ kvs, p.1.tk = true) (rk : RD (gx X) ρ H k vk) (qk : RelV vk uk) (rv : RD (gx X) ρ H d v) (qv : RelV v u) (hz : kvs.length < LIM) (hun : (Cell.dct (kset kvs k d)).und n = true) {Q : Unit → Shared → Prop}
    (h : ∀ H' s', Inv X pins σ H' s' → Ext ρ H ρ H' → Rep (gx X) ρ (M.set n (.dct (kset kvs k d))) H' → Q () s') : wpAny (model X.prog X.w) X.A (setItem (.ref a) uk u) Q X.xe s := by
  obtain ⟨ak, rfl⟩ := tk_ref hk rk qk
  obtain ⟨o, es, ep, hH, z, hx, hd, ok, r⟩ := rep.cell _ _ _ h1 hc
  have ho : s.heap.get? a = some o := (I.hok a _ hH).1
  obtain ⟨xs, dx, e3, e4⟩ := tk_dict I ho hx hd r hl ok.2
  have rk' : RD (gx X) ρ H k (.ref ak) := by
    have : vk = .ref ak := RelV.inj qk rfl
    rw [← this]; exact rk
  have hlen : xs.length = kvs.length := by
    have := congrArg List.length e3
    simpa using this
  refine wpAny_setItem_heap (hsz := ?_) (knd := nestedKind X.prog X.w) (show X.A.units + 1 + 8 < cLine by omega) (tk_is I hk rk' rfl) dx fun h' dx' sb => ?_
  · obtain ⟨o', es', ep', ho', hx', hd', el, _, nd'⟩ := dx'
    have rel := set_rel e4 rk' rv qv
    have ew : Ext ρ H ρ (upd H a (xo a o')) := Ext.write rep h1
    have I' := I.write (x := a) (e := a) (o := xo a o') (h' := h') (t' := s.toks + (nestedKind X.prog X.w).draws k.nk) (by rw [hH]; exact True.intro) (.inl rfl) (fun b q hb e => (sb.2 b hb).trans e) ⟨o', ho'⟩ ⟨ho', ⟨_, ho'⟩, fun h1 h2 p1 p2 => p2 _ p1⟩
    refine h _ _ I' ew (rep.write h1 ⟨o', es', ep', upd_same, z, hx', hd', ⟨.inr (kset_tk hl hk), ?_⟩, ?_⟩ hun)
    · rw [← ent_keys rel]; exact nd'
    · rw [el]; exact (ent_rde rel).ext ew
  · rw [hlen]; exact Nat.le_of_lt (LIM_lt hz)
end
end Ev

set_option Elab.async false
set_option linter.all false
set_option maxRecDepth 100000
set_option maxHeartbeats 1000000
/-! Ev4c: stores into dicts whose keys are whole numbers and texts. -/
namespace Ev
open PySem PySem.Spec PyProof.Rows L2 PySem.W
def lk : D → Key
  | .int i => .inl i
  | .str s => .inr s
  | _ => .inl 0
theorem lk_nk {a b : D} (h : a.leaf = true) (k : b.leaf = true) : lk a = lk b ↔ a.nk = b.nk := by
  cases a <;> simp [D.leaf] at h <;> cases b <;> simp [D.leaf] at k <;> simp [lk, D.nk]
section
variable {X : Cx} {pins : List (Addr × Obj)} {σ : L2.St} {s : Shared} {ρ : Rho} {H : Hp}
def EntL (g : Gx) (ρ : Rho) (H : Hp) (p : D × D) (q : Key × Value) : Prop := p.1.leaf = true ∧ q.1 = lk p.1 ∧ ∃ v, RD g ρ H p.2 v ∧ RelV v q.2
theorem leaf_rel {k : D} {v : V} {u : Value} (h : k.leaf = true) (r : RD (gx X) ρ H k v) (q : RelV v u) : keyIs (lk k) u = true := by
  cases r <;> first | (simp [D.leaf] at h; done) | skip
  · obtain ⟨t, rfl⟩ := q; exact keyIs_int _ _
  · obtain ⟨t, rfl⟩ := q; exact keyIs_str _ _
theorem leaf_pairs : ∀ {kvs : List (D × D)} {es : List DictEntry}, RDe (gx X) ρ H kvs es → (∀ p ∈ kvs, p.1.leaf = true) → ∃ ps : List (Key × Value), Pairs (mixKind X.prog X.w) es ps ∧ Paired (EntL (gx X) ρ H) kvs ps
  | _, _, .nil, _ => ⟨[], .nil, .nil⟩
  | _, _, .cons (k := k) (v := v) (e := e) r1 q1 h1 r2 q2 r, hl => by
    obtain ⟨ps, i1, i2⟩ := leaf_pairs r fun p hp => hl p (List.mem_cons_of_mem _ hp)
    have hk := hl _ List.mem_cons_self
    exact ⟨(lk k, e.val) :: ps, .cons (leaf_rel hk r1 q1) rfl i1, .cons ⟨hk, rfl, _, r2, q2⟩ i2⟩
theorem entL_keys {kvs : List (D × D)} {ps : List (Key × Value)} (hp : Paired (EntL (gx X) ρ H) kvs ps) : ps.map (·.1) = kvs.map fun p => lk p.1 := by
  induction hp with
  | nil => rfl
  | cons q _ ih => rw [List.map_cons, List.map_cons, ih, q.2.1]
theorem entL_set {kvs : List (D × D)} {ps : List (Key × Value)} (hp : Paired (EntL (gx X) ρ H) kvs ps) {k d : D} {v : V} {u : Value} (hk : k.leaf = true) (rv : RD (gx X) ρ H d v) (qv : RelV v u) : Paired (EntL (gx X) ρ H) (kset kvs k d) (stored ps (lk k) u) := by
  have hany : ps.any (fun kv => decide (kv.1 = lk k)) = kvs.any (fun p => decide (p.1.nk = k.nk)) := by
    induction hp with
    | nil => rfl
    | @cons p q kvs ps h _ ih =>
      rw [List.any_cons, List.any_cons, ih, h.2.1]
      congr 1
      rw [Bool.eq_iff_iff, decide_eq_true_eq, decide_eq_true_eq]
      exact lk_nk h.1 hk
  unfold kset stored
  rw [hany]
  split
  · clear hany
    rename_i hx
    clear hx
    induction hp with
    | nil => exact .nil
    | @cons p q kvs ps h _ ih =>
      refine .cons ?_ ih
      dsimp only
      by_cases e : p.1.nk = k.nk
      · rw [if_pos e, if_pos (by rw [h.2.1]; exact (lk_nk h.1 hk).mpr e)]
        exact ⟨h.1, h.2.1, v, rv, qv⟩
      · rw [if_neg e, if_neg (by rw [h.2.1]; exact fun z => e ((lk_nk h.1 hk).mp z))]
        exact h
  · clear hany
    rename_i hx
    clear hx
    induction hp with
    | nil => exact .cons ⟨hk, rfl, v, rv, qv⟩ .nil
    | cons h _ ih => exact .cons h ih
theorem entL_rde : ∀ {kvs : List (D × D)} {ps : List (Key × Value)} {es : List DictEntry}, Pairs (mixKind X.prog X.w) es ps → Paired (EntL (gx X) ρ H) kvs ps → (∀ e ∈ es, ∃ k, (mixKind X.prog X.w).is k e.key = true ∧ e.hash = (mixKind X.prog X.w).hash k) → RDe (gx X) ρ H kvs es
  | _, _, _, .nil, .nil, _ => .nil
  | (a, b) :: _, _, _, .cons (e := e) (kv := q) i1 i2 i3, .cons h t, hk => by
    obtain ⟨h1, h2, v, h3, h4⟩ := h
    dsimp only at h1 h2 h3
    have hk1 : keyIs (lk a) e.key = true := by rw [← h2]; exact i1
    obtain ⟨k', c1, c2⟩ := hk e List.mem_cons_self
    have hkk : k' = lk a := by
      rcases keyIs_shape hk1 with ⟨i, t, e1, e2⟩ | ⟨x, t, e1, e2⟩ <;> rcases keyIs_shape (k := k') c1 with ⟨i', t', e3, e4⟩ | ⟨x', t', e3, e4⟩ <;> rw [e2] at e4 <;> cases e4 <;> rw [e1, e3]
    subst hkk
    have rest := entL_rde i3 t fun e' he => hk e' (List.mem_cons_of_mem _ he)
    cases a <;> simp [D.leaf] at h1
    · rename_i i
      obtain ⟨t', ek⟩ := Value.isInt_shape (k := i) (v := e.key) hk1
      exact .cons (.int i) ⟨t', ek⟩ (by rw [c2]; rfl) h3 (by rw [i2]; exact h4) rest
    · rename_i x
      obtain ⟨t', ek⟩ := Value.isStrOf_shape (x := x) (v := e.key) hk1
      exact .cons (.str x) ⟨t', ek⟩ (by rw [c2]; rfl) h3 (by rw [i2]; exact h4) rest
theorem leaf_nodup {kvs : List (D × D)} (hl : ∀ p ∈ kvs, p.1.leaf = true) : (kvs.map fun p => lk p.1).Nodup ↔ (kvs.map fun p => p.1.nk).Nodup := by
  induction kvs with
  | nil => simp
  | cons p kvs ih =>
    have ih := ih fun q hq => hl q (List.mem_cons_of_mem _ hq)
    rw [List.map_cons, List.map_cons, List.nodup_cons, List.nodup_cons, ih]
    have : (lk p.1 ∈ kvs.map fun p => lk p.1) ↔ (p.1.nk ∈ kvs.map fun p => p.1.nk) := by
      rw [List.mem_map, List.mem_map]
      constructor
      · rintro ⟨q, hq, e⟩
        exact ⟨q, hq, (lk_nk (hl q (List.mem_cons_of_mem _ hq)) (hl p List.mem_cons_self)).mp e⟩
      · rintro ⟨q, hq, e⟩
        exact ⟨q, hq, (lk_nk (hl q (List.mem_cons_of_mem _ hq)) (hl p List.mem_cons_self)).mpr e⟩
    rw [this]
theorem entL_leaf {kvs : List (D × D)} {ps : List (Key × Value)} (hp : Paired (EntL (gx X) ρ H) kvs ps) : ∀ p ∈ kvs, p.1.leaf = true := by
  induction hp with
  | nil => intro p h; cases h
  | cons q _ ih =>
    intro p h
    rcases List.mem_cons.mp h with rfl | h
    · exact q.1
    · exact ih p h
/-- c[k] = v, c a cell that is such a dict -/
theorem leaf_set {M : Mem} (I : Inv X pins σ H s) (rep : Rep (gx X) ρ M H) {n : Nat} {a : Addr} {kvs : List (D × D)} (h1 : ρ.c[n]? = some a) (hc : M[n]? = some (.dct kvs)) {k d : D} {vk v : V} {uk u : Value}
    (hk : k.leaf = true) (hl : ∀ p ∈ kvs, p.1.leaf = true) (rk : RD (gx X) ρ H k vk) (qk : RelV vk uk) (rv : RD (gx X) ρ H d v) (qv : RelV v u) (hz : kvs.length < LIM) (hun : (Cell.dct (kset kvs k d)).und n = true) {Q : Unit → Shared → Prop}
    (h : ∀ H' s', Inv X pins σ H' s' → Ext ρ H ρ H' → Rep (gx X) ρ (M.set n (.dct (kset kvs k d))) H' → Q () s') : wpAny (model X.prog X.w) X.A (setItem (.ref a) uk u) Q X.xe s := by
  obtain ⟨o, es, ep, hH, z, hx, hd, ok, r⟩ := rep.cell _ _ _ h1 hc
  have ho : s.heap.get? a = some o := (I.hok a _ hH).1
  obtain ⟨ps, p1, p2⟩ := leaf_pairs r hl
  have hlen : ps.length = kvs.length := by
    have := congrArg List.length (entL_keys p2)
    simpa using this
  have nd : (ps.map (·.1)).Nodup := by rw [entL_keys p2]; exact (leaf_nodup hl).mpr ok.2
  refine wpAny_setItem_pairs (hsz := ?_) (knd := mixKind X.prog X.w) (k := lk k) (leaf_rel hk rk qk) ⟨o, es, ep, ho, hx, hd, fun e he => leaf_keysOf rfl r hl e (by simpa using he), p1, nd⟩ fun h' dx' sb => ?_
  · obtain ⟨o', es', ep', ho', hx', hd', ko, pr, nd'⟩ := dx'
    have rel := entL_set p2 (k := k) hk rv qv
    have lf := entL_leaf rel
    have ew : Ext ρ H ρ (upd H a (xo a o')) := Ext.write rep h1
    have I' := I.write (x := a) (e := a) (o := xo a o') (h' := h') (t' := s.toks + 1) (by rw [hH]; exact True.intro) (.inl rfl) (fun b q hb e => (sb.2 b hb).trans e) ⟨o', ho'⟩ ⟨ho', ⟨_, ho'⟩, fun h1 h2 p1 p2 => p2 _ p1⟩
    refine h _ _ I' ew (rep.write h1 ⟨o', es', ep', upd_same, z, hx', hd', ⟨.inl lf, ?_⟩, ?_⟩ hun)
    · refine (leaf_nodup lf).mp ?_
      rw [← entL_keys rel]; exact nd'
    · exact (entL_rde pr rel fun e he => ko e (by simpa using he)).ext ew
  · rw [hlen]; exact Nat.le_of_lt (LIM_lt hz)
end
end Ev

set_option Elab.async false
set_option linter.all false
set_option maxRecDepth 100000
set_option maxHeartbeats 1000000
/-! Ev4d: look-ups, stores, methods. -/
namespace Ev
open PySem PySem.Spec PyProof.Rows L2 PySem.W
section
variable {X : Cx} {pins : List (Addr × Obj)} {σ : L2.St} {s : Shared} {ρ : Rho} {H : Hp} {M : Mem}
/-- a dict, a value or a cell -/
theorem dct_at (I : Inv X pins σ H s) (rep : Rep (gx X) ρ M H) {d : D} {v : V} {u : Value} (rd : RD (gx X) ρ H d v) (rv : RelV v u) {kvs : List (D × D)} (h : dctOf M d = some kvs) :
    ∃ (a : Addr) (o : Obj) (es : Array DictEntry) (ep : Nat), v = .ref a ∧ u = .ref a ∧ s.heap.get? a = some o ∧ (a == sysModules) = false ∧ o.ExactDict ∧ o.data = .dict es ep ∧ DOk kvs ∧ RDe (gx X) ρ H kvs es.toList := by
  cases rd with
  | dct h1 z h2 h3 h4 h5 =>
    simp only [dctOf, Option.some.injEq] at h
    subst h
    cases rv
    exact ⟨_, _, _, _, rfl, rfl, h1.at_ I, z, h2, h3, h4, h5⟩
  | @obj n a h1 =>
    obtain ⟨c, hc, ok⟩ := rep.at_ h1
    cases c with
    | lst l => simp [dctOf, hc] at h
    | dct l =>
      simp only [dctOf, hc, Option.some.injEq] at h
      subst h
      obtain ⟨o, es, ep, hH, z, hx, hd, ok, r⟩ := ok
      cases rv
      exact ⟨a, o, es, ep, rfl, rfl, (I.hok a _ hH).1, z, hx, hd, ok, r⟩
  | _ => simp [dctOf] at h
theorem kOk_cases {kvs : List (D × D)} {k : D} (h : kOk kvs k = true) : (k.leaf = true ∧ ∀ p ∈ kvs, p.1.leaf = true) ∨ (k.tk = true ∧ ∀ p ∈ kvs, p.1.tk = true) := by
  simp only [kOk, Bool.or_eq_true, Bool.and_eq_true, List.all_eq_true] at h
  exact h
theorem findBy_of {es : Array DictEntry} {κ : Key} : findBy keyIs es κ = (es.toList.find? fun e => keyIs κ e.key).map (·.val) := by
  unfold findBy; rw [Array.find?_toList]
theorem dct_getOr (I : Inv X pins σ H s) (hu : X.A.units + 64 < cLine) {a : Addr} {o : Obj} {es : Array DictEntry} {ep : Nat} {kvs : List (D × D)} (ho : s.heap.get? a = some o) (z : (a == sysModules) = false) (hx : o.ExactDict) (hd : o.data = .dict es ep) (ok : DOk kvs) (r : RDe (gx X) ρ H kvs es.toList)
    {k : D} {vk : V} {uk ud : Value} (hk : kOk kvs k = true) (rk : RD (gx X) ρ H k vk) (qk : RelV vk uk) {Q : Value → Shared → Prop}
    (h : ∀ u t, (match kget kvs k with
      | some d => ∃ v, RelV v u ∧ RD (gx X) ρ H d v
      | none => u = ud) → Q u { s with toks := t }) : wpAny (model X.prog X.w) X.A (call (.builtin "dict.get") [.ref a, uk, ud]) Q X.xe s := by
  rcases kOk_cases hk with ⟨h1, h2⟩ | ⟨h1, h2⟩
  · have mp := leaf_map ho hx hd r h2
    obtain ⟨κ, c1, c2, _⟩ := leaf_key h1 rk qk
    have ff := leaf_find c1 r h2
    refine call_meetsIn PySem.F.slot_dict_get (⟨_, ho, hx.1⟩ : s.TypeIs (.ref a) "dict") PySem.F.entry_dict_get (PySem.F.args_dict_get_3 _ _ _) (meets_dict_get_default (knd := mixKind X.prog X.w) (k := κ) (d := a) c2 z ud) ⟨_, mp, ?_⟩
    rw [findBy_of]
    refine h _ _ ?_
    cases hg : kget kvs k with
    | some d' =>
      rw [hg] at ff
      obtain ⟨u', v', f1, f2, f3⟩ := ff
      rw [f1]
      exact ⟨v', f2, f3⟩
    | none =>
      rw [hg] at ff
      rw [show Option.map (fun x => x.val) (List.find? (fun e => keyIs κ e.key) es.toList) = none from ff] <;> rfl
  · exact tk_getOr I hu ho z hx hd ok r h1 h2 rk qk h
theorem dct_getItem (I : Inv X pins σ H s) (hu : X.A.units + 64 < cLine) {a : Addr} {o : Obj} {es : Array DictEntry} {ep : Nat} {kvs : List (D × D)} (ho : s.heap.get? a = some o) (hx : o.ExactDict) (hd : o.data = .dict es ep) (ok : DOk kvs) (r : RDe (gx X) ρ H kvs es.toList)
    {k d : D} {vk : V} {uk : Value} (hk : kOk kvs k = true) (rk : RD (gx X) ρ H k vk) (qk : RelV vk uk) (hd' : kget kvs k = some d) {Q : Value → Shared → Prop}
    (h : ∀ u t v, RelV v u → RD (gx X) ρ H d v → Q u { s with toks := t }) : wpAny (model X.prog X.w) X.A (getItem (.ref a) uk) Q X.xe s := by
  rcases kOk_cases hk with ⟨h1, h2⟩ | ⟨h1, h2⟩
  · have mp := leaf_map ho hx hd r h2
    obtain ⟨κ, c1, c2, _⟩ := leaf_key h1 rk qk
    have ff := leaf_find c1 r h2
    rw [hd'] at ff
    obtain ⟨u', v', f1, f2, f3⟩ := ff
    exact wpAny_getItem_of (knd := mixKind X.prog X.w) (k := κ) c2 mp (v := u') (by rw [findBy_of]; exact f1) (h _ _ _ f2 f3)
  · obtain ⟨ak, rfl⟩ := tk_ref h1 rk qk
    obtain ⟨xs, dx, e3, e4⟩ := tk_dict I ho hx hd r h2 ok.2
    have g := tk_get e3 e4 k
    rw [hd'] at g
    obtain ⟨u, v, g1, g2, g3⟩ := g
    exact getItem_keyed (knd := nestedKind X.prog X.w) (kvs := pairsH xs) (show X.A.units + 1 + 8 < cLine by omega) (tk_is I h1 rk qk) ⟨xs, dx, rfl⟩ g1 (h _ _ _ g2 g3)
theorem ix_D (hu : X.A.units + 64 < cLine) : IxR X (rOp2 (gx X) idxD) := by
  intro value slice pins s σ H x y v u Q I rx ry h hs
  obtain ⟨ρ, M, d, e, rep, rd, re, h⟩ := h
  unfold idxD at h
  split at h
  · rename_i kvs hk0
    split at h
    · rename_i hk
      split at h
      · rename_i d' hd'
        obtain ⟨a, o, es, ep, rfl, rfl, ho, z, hx, hd, ok, r⟩ := dct_at I rep rd rx hk0
        refine tail_any (ops := [.ref a, u]) (T := "dict") ⟨_, ho, hx.1⟩ slot_dict_getitem.lookup ?_ hs
        refine dct_getItem I hu ho hx hd ok r hk re ry hd' fun u' t v' q1 q2 => ?_
        exact ⟨v', H, I.tok _, q1, h.here rep _ q2⟩
      · exact h.no.elim
    · exact h.no.elim
  · exact ix_S value slice pins s σ H x y v u Q I rx ry ⟨ρ, M, d, e, rep, rd, re, h⟩ hs
end
/-! ### methods -/
/-- the receiver's built-in type and what the call gives -/
def rMet (g : Gx) (f : D → List D → Mem → Res D) : V → List V → Hp → VK → Prop := fun x xs H Q => ∃ ρ M d ds, Rep g ρ M H ∧ RD g ρ H d x ∧ RDs g ρ H ds xs ∧ Post g ρ H (f d ds M) (QV g Q)
def metT : Met → String
  | .append => "list"
  | .get => "dict"
  | .insert => "list"
  | .count => "list"
def metId : Met → String
  | .append => "list.append"
  | .get => "dict.get"
  | .insert => "list.insert"
  | .count => "list.count"
theorem metD_rec {m : Met} {M : Mem} {d : D} {ds : List D} (h : recD m M d = false) : metD m d ds M = .bad := by
  unfold metD
  split
  · simp only [recD] at h
    split
    · rename_i e; rw [e] at h; cases h
    · rfl
  · simp only [recD] at h
    split
    · rename_i e; rw [e] at h; cases h
    · rfl
  · simp only [recD] at h
    split
    · rename_i e; rw [e] at h; cases h
    · rfl
  · simp only [recD] at h
    split
    · rename_i e; obtain ⟨l, e1, _⟩ := Option.bind_eq_some_iff.mp e; rw [e1] at h; cases h
    · rfl
  · rfl
section
variable {X : Cx} {ρ : Rho} {H : Hp} {M : Mem}
theorem rec_is {pins : List (Addr × Obj)} {σ : L2.St} {s : Shared} {m : Met} {d : D} {v : V} {u : Value} (I : Inv X pins σ H s) (rep : Rep (gx X) ρ M H) (rd : RD (gx X) ρ H d v) (rv : RelV v u) (h : recD m M d = true) :
    s.TypeIs u (metT m) ∧ ∀ a, u = .ref a → ∃ ob, s.heap.get? a = some ob ∧ ob.dict = none := by
  have lst : ∀ {a : Addr} {vs : List V}, SqL X.K H a vs → s.TypeIs (.ref a) "list" ∧ ∀ b, Value.ref a = .ref b → ∃ ob, s.heap.get? b = some ob ∧ ob.dict = none := fun {a vs} h => by
    obtain ⟨its, _, pl, _⟩ := I.list h
    refine ⟨pl.isList.typeIs, fun b e => ?_⟩
    cases e
    obtain ⟨o, n, e, c, hd, _⟩ := pl
    exact ⟨o, e, hd⟩
  have cel : ∀ {n : Nat} {a : Addr}, ρ.c[n]? = some a → (match M[n]? with
      | some (.lst _) => true
      | _ => false) = true → ∃ vs, SqL X.K H a vs := fun {n a} h1 h => by
    obtain ⟨c, hc, ok⟩ := rep.at_ h1
    cases c with
    | lst l => obtain ⟨vs, h2, _⟩ := ok; exact ⟨vs, SqL.of h2⟩
    | dct l => rw [hc] at h; cases h
  cases m with
  | append =>
    cases rd with
    | @obj n a h1 =>
      obtain ⟨vs, hv⟩ := cel h1 h
      cases rv
      exact lst hv
    | _ => exact absurd h Bool.false_ne_true
  | insert =>
    cases rd with
    | @obj n a h1 =>
      obtain ⟨vs, hv⟩ := cel h1 h
      cases rv
      exact lst hv
    | _ => exact absurd h Bool.false_ne_true
  | get =>
    obtain ⟨kvs, hk⟩ := Option.isSome_iff_exists.mp (show (dctOf M d).isSome = true from h)
    obtain ⟨a, o, es, ep, rfl, rfl, ho, z, hx, hd, ok, r⟩ := dct_at I rep rd rv hk
    exact ⟨⟨_, ho, hx.1⟩, fun b e => by cases e; exact ⟨_, ho, hx.2.1⟩⟩
  | count =>
    obtain ⟨l, hl⟩ := Option.isSome_iff_exists.mp (show (lrOf M d).isSome = true from h)
    obtain ⟨a, vs, rfl, h1, _⟩ := lrOf_ok rep rd hl
    cases rv
    exact lst h1
theorem ins_und {n k : Nat} {l : List D} {x : D} (h : unds n l = true) (hx : x.und n = true) : unds n (l.take k ++ [x] ++ l.drop k) = true := by
  rw [unds_all, List.all_eq_true] at *
  intro p hp
  rcases List.mem_append.mp hp with hp | hp
  · rcases List.mem_append.mp hp with hp | hp
    · exact h p (List.mem_of_mem_take hp)
    · rw [List.mem_singleton] at hp; rw [hp]; exact hx
  · exact h p (List.mem_of_mem_drop hp)
theorem mt_D (hu : X.A.units + 64 < cLine) (m : Met) : MtR X (metId m) (rMet (gx X) (metD m)) := by
  intro pins s σ H x xs v us Q I rx rxs h
  obtain ⟨ρ, M, d, ds, rep, rd, rds, h⟩ := h
  unfold metD at h
  split at h
  · -- append
    split at h
    · rename_i x0 _ l hl
      split at h
      · rename_i hz
        simp only [Bool.and_eq_true, decide_eq_true_eq] at hz
        cases rd with
        | @obj n a h1 =>
          obtain ⟨y, rfl, ry⟩ := RDs1 rds
          have ok := rep.cell _ _ _ h1 hl
          obtain ⟨vs, h2, q⟩ := ok
          refine mt_append pins s σ H _ _ v us Q I rx rxs ⟨a, vs, y, rfl, rfl, h2, by rw [← q.length]; exact LIM_lt hz.1, ?_⟩
          have hu : Cell.und _ (.lst (l ++ [x0])) = true := unds_append (rep.un _ _ hl) (by simp only [unds, hz.2, Bool.and_true])
          refine h _ _ (Ext.write rep h1) (rep.write h1 ⟨_, upd_same, ?_⟩ hu) _ .non
          exact (q.append (.cons ry .nil)).ext (Ext.write rep h1)
      · exact h.no.elim
    · exact h.no.elim
  · -- get
    split at h
    · rename_i kvs hk0
      split at h
      · rename_i hk
        obtain ⟨vk, vd, rfl, rk, rd2⟩ := RDs2 rds
        obtain ⟨a, o, es, ep, rfl, rfl, ho, z, hx, hd, ok, r⟩ := dct_at I rep rd rx hk0
        obtain ⟨uk, ud, rfl, r1, r2⟩ := vals2 rxs
        refine dct_getOr I hu ho z hx hd ok r hk rk r1 fun u' t hq => ?_
        split at hq
        · rename_i d' hd'
          obtain ⟨v', q1, q2⟩ := hq
          rw [hd'] at h
          exact ⟨v', H, I.tok _, q1, h.here rep _ q2⟩
        · rename_i hd'
          subst hq
          rw [hd'] at h
          exact ⟨vd, H, I.tok _, r2, h.here rep _ rd2⟩
      · exact h.no.elim
    · exact h.no.elim
  · -- insert
    split at h
    · rename_i i x0 _ l hl
      split at h
      · rename_i hz
        simp only [Bool.and_eq_true, decide_eq_true_eq] at hz
        cases rd with
        | @obj n a h1 =>
          obtain ⟨y1, y, rfl, ri, ry⟩ := RDs2 rds
          cases ri
          have ok := rep.cell _ _ _ h1 hl
          obtain ⟨vs, h2, q⟩ := ok
          refine mt_insert pins s σ H _ _ v us Q I rx rxs ⟨a, vs, i, y, rfl, rfl, h2, by rw [← q.length]; exact LIM_lt hz.1.1, hz.2.1, hz.2.2, ?_⟩
          have hu : Cell.und _ (.lst (l.take i.toNat ++ [x0] ++ l.drop i.toNat)) = true := ins_und (rep.un _ _ hl) hz.1.2
          refine h _ _ (Ext.write rep h1) (rep.write h1 ⟨_, upd_same, ?_⟩ hu) _ .non
          exact (((q.take _).append (.cons ry .nil)).append (q.drop _)).ext (Ext.write rep h1)
      · exact h.no.elim
    · exact h.no.elim
  · -- count
    split at h
    · rename_i k _ ns hn
      obtain ⟨l, e1, e2⟩ := Option.bind_eq_some_iff.mp hn
      obtain ⟨a, vs, rfl, h1, q⟩ := lrOf_ok rep rd e1
      obtain ⟨y, rfl, ry⟩ := RDs1 rds
      cases ry
      rw [intsD_ok q e2] at h1
      exact mt_lcount pins s σ H _ _ v us Q I rx rxs ⟨a, ns, k, rfl, rfl, h1, h.here rep _ (.int _)⟩
    · exact h.no.elim
  · exact h.no.elim
/-- o[i] = v -/
def rSet (g : Gx) : V → V → V → Hp → (Hp → Prop) → Prop := fun o i v H Q => ∃ ρ M d e f M', Rep g ρ M H ∧ RD g ρ H d o ∧ RD g ρ H e i ∧ RD g ρ H f v ∧ setD d e f M = some M' ∧ ∀ ρ' H', Ext ρ H ρ' H' → Rep g ρ' M' H' → Q H'
theorem unde_all {m : Nat} : ∀ {l : List (D × D)}, unde m l = l.all (fun p => p.1.und m && p.2.und m)
  | [] => rfl
  | (a, b) :: r => by simp only [unde, List.all_cons, unde_all]
theorem kset_und {n : Nat} {kvs : List (D × D)} {k v : D} (h : unde n kvs = true) (hk : k.und n = true) (hv : v.und n = true) : unde n (kset kvs k v) = true := by
  rw [unde_all, List.all_eq_true] at *
  unfold kset
  split
  · intro p hp
    obtain ⟨q, hq, rfl⟩ := List.mem_map.mp hp
    have := h q hq
    split
    · simp only [Bool.and_eq_true] at this ⊢; exact ⟨this.1, hv⟩
    · exact this
  · intro p hp
    rcases List.mem_append.mp hp with hp | hp
    · exact h p hp
    · rw [List.mem_singleton] at hp; rw [hp]; simp only [hk, hv, Bool.and_self]
theorem set_D (hu : X.A.units + 64 < cLine) : PSet X (rSet (gx X)) := by
  intro pins s σ H o i v uo ui uv Q I ro ri rv h
  obtain ⟨ρ, M, d, e, f, M', rep, rd, re, rf, hs, h⟩ := h
  unfold setD at hs
  split at hs
  · split at hs
    · rename_i l hl
      split at hs
      · split at hs
        · rename_i j hj
          split at hs
          · cases hs
            cases re
            cases rd with
            | @obj n a h1 =>
              have ok := rep.cell _ _ _ h1 hl
              obtain ⟨vs, h2, q⟩ := ok
              have hu : Cell.und _ (.lst (l.set j f)) = true := unds_set (rep.un _ _ hl) (by assumption) j
              refine set_list pins s σ H _ _ _ uo ui uv Q I ro ri rv ⟨a, vs, _, j, rfl, rfl, h2, by rw [← q.length]; exact hj, h _ _ (Ext.write rep h1) (rep.write h1 ⟨_, upd_same, ?_⟩ hu)⟩
              exact (q.set j rf).ext (Ext.write rep h1)
          · cases hs
        · cases hs
      · cases hs
    · rename_i kvs hl
      split at hs
      · rename_i hz
        cases hs
        simp only [Bool.and_eq_true, decide_eq_true_eq] at hz
        obtain ⟨⟨⟨hk, hz⟩, u1⟩, u2⟩ := hz
        cases rd with
        | @obj n a h1 =>
          cases ro
          have hun : Cell.und _ (Cell.dct (kset kvs e f)) = true := kset_und (rep.un _ _ hl) u1 u2
          rcases kOk_cases hk with ⟨k1, k2⟩ | ⟨k1, k2⟩
          · exact leaf_set I rep h1 hl k1 k2 re ri rf rv hz hun fun H' s' I' e' r' => ⟨H', I', h _ _ e' r'⟩
          · exact tk_set I rep hu h1 hl k1 k2 re ri rf rv hz hun fun H' s' I' e' r' => ⟨H', I', h _ _ e' r'⟩
      · cases hs
    · cases hs
  · cases hs
end
end Ev

set_option Elab.async false
set_option linter.all false
set_option maxRecDepth 100000
set_option maxHeartbeats 1000000
/-! Ev4e: sorted, dict, the built-in functions. -/
namespace Ev
open PySem PySem.Spec PyProof.Rows L2 PySem.W
section
variable {X : Cx} {pins : List (Addr × Obj)} {σ : L2.St} {s : Shared} {ρ : Rho} {H : Hp} {M : Mem}
def Sta (g : Gx) (ρ : Rho) (H : Hp) (u : Value) (d : D) : Prop := ∃ v, RD g ρ H d v ∧ RelV v u
theorem each_rd : ∀ {l : List D} {vs : List V} {us : List Value}, RDs (gx X) ρ H l vs → Vals vs us → EachIs (Sta (gx X) ρ H) us l
  | _, _, _, .nil, .nil => .nil
  | _, _, _, .cons a r, .cons b t => .cons ⟨_, a, b⟩ (each_rd r t)
theorem each_back : ∀ {us : List Value} {l : List D}, EachIs (Sta (gx X) ρ H) us l → ∃ vs, Vals vs us ∧ RDs (gx X) ρ H l vs
  | _, _, .nil => ⟨[], .nil, .nil⟩
  | _, _, .cons ⟨v, a, b⟩ t => by
    obtain ⟨vs, h1, h2⟩ := each_back t
    exact ⟨v :: vs, .cons b h1, .cons a h2⟩
theorem each_reads (I : Inv X pins σ H s) : ∀ {us : List Value} {l : List D}, EachIs (Sta (gx X) ρ H) us l → (∀ d ∈ l, d.py.isSome = true) → EachIs (fun u d => ∃ as, Reads s.heap u (encD d) as) us l
  | _, _, .nil, _ => .nil
  | _, _, .cons (b := d) ⟨v, a, b⟩ t, h => by
    refine .cons ?_ (each_reads I t fun d hd => h d (List.mem_cons_of_mem _ hd))
    obtain ⟨p, hp⟩ := Option.isSome_iff_exists.mp (h d List.mem_cons_self)
    have e : encD d = p := by unfold encD; rw [hp]; rfl
    rw [e]
    exact Dp.reads I p v _ (RD.dp a hp) b
end
section
variable {prog : Program} {w : World} {A : Around} {s : Shared}
theorem sortOk_of {l : List D} (h : sortOk l = true) : l.length ≤ LIM ∧ (∀ d ∈ l, d.py.isSome = true) ∧ (∀ d ∈ l, (encD d).depth ≤ 60) ∧ AllPur (l.map encD) ∧ AllCm (l.map encD) ∧ ((∀ d ∈ l.map encD, ∃ x r, d = .tuple (x :: r)) ∨ (∀ d ∈ l.map encD, isT d = false) ∨ (l.map encD).length ≤ 1) := by
  unfold sortOk at h
  simp only [Bool.and_eq_true, decide_eq_true_eq, List.all_eq_true, Bool.or_eq_true, Bool.not_eq_true'] at h
  obtain ⟨⟨⟨h1, h2⟩, h3⟩, h4⟩ := h
  refine ⟨h1, fun d hd => (h2 d hd).1.1, fun d hd => (h2 d hd).1.2, fun d hd => ?_, ?_, ?_⟩
  · obtain ⟨a, ha, rfl⟩ := List.mem_map.mp hd
    exact (h2 a ha).2
  · intro d hd d' hd'
    obtain ⟨a, ha, rfl⟩ := List.mem_map.mp hd
    obtain ⟨b, hb, rfl⟩ := List.mem_map.mp hd'
    exact h3 a ha b hb
  · rcases h4 with (h4 | h4) | h4
    · refine .inl fun d hd => ?_
      obtain ⟨a, ha, rfl⟩ := List.mem_map.mp hd
      have := h4 a ha
      revert this
      generalize encD a = q
      intro this
      unfold isTup1 at this
      split at this
      · exact ⟨_, _, rfl⟩
      · cases this
    · refine .inr (.inl fun d hd => ?_)
      obtain ⟨a, ha, rfl⟩ := List.mem_map.mp hd
      exact h4 a ha
    · exact .inr (.inr (by rw [List.length_map]; exact h4))
theorem room_of {l : List D} {n : Nat} (hu : n + 64 < cLine) (h : ∀ d ∈ l, (encD d).depth ≤ 60) : ∀ d, d ∈ l.map encD → n + 1 + 1 + d.depth < cLine := fun d hd => by
  obtain ⟨a, ha, rfl⟩ := List.mem_map.mp hd
  have := h a ha
  omega
end
section
variable {X : Cx} {ρ : Rho} {H : Hp} {M : Mem}
/-- sorted(x), x a list -/
theorem sorted_list {pins : List (Addr × Obj)} {σ : L2.St} {s : Shared} {l : List D} {a : Addr} {vs : List V} {Q : VK} (I : Inv X pins σ H s) (hu : X.A.units + 64 < cLine) (rep : Rep (gx X) ρ M H) (h1 : SqL X.K H a vs) (q : RDs (gx X) ρ H l vs) (ok : sortOk l = true)
    (h : Post (gx X) ρ H (.ok (.lst (sortD l)) M) (QV (gx X) Q)) : wpAny (model X.prog X.w) X.A (PySem.call (.builtin "sorted") [.ref a]) (EP X pins σ Q) X.xe s := by
  obtain ⟨o1, o2, o3, o4, o4c, o5⟩ := sortOk_of ok
  obtain ⟨us, r, pl, hz⟩ := I.list h1
  have J : Inv X pins σ H { s with heap := sortingHeap (copyHeap s.heap us) (s.heap.objs.size + 1) us } := I.kept (t' := s.toks) fun _ _ e => sorting_copy_old e
  have e := each_rd q r
  have er := each_reads J e o2
  have hL : us.length ≤ sizeLine := by rw [← r.length]; exact hz
  refine sorted_vals pl.isList (sortsAt_cm (s := { s with heap := sortingHeap (copyHeap s.heap us) (s.heap.objs.size + 1) us }) (each_map (R := fun v d => ∃ as, Reads (sortingHeap (copyHeap s.heap us) (s.heap.objs.size + 1) us) v d as) encD er) o4 o4c o5 (room_of hu o3)) hL ?_
  have out := sortVals_cm false e er o4
  obtain ⟨ws, w1, w2⟩ := each_back out
  obtain ⟨c, hc⟩ := sortedAll_at s.heap us (sortVals (dataKind (sortingHeap (copyHeap s.heap us) (s.heap.objs.size + 1) us) (l.map encD)) false us us).toArray
  have z : ws.length ≤ sizeLine := by rw [w1.length, sortVals_length false rfl]; exact hL
  have K := I.laid (t' := s.toks) (a := s.heap.objs.size + 1) (o := .lst ws) (fun _ _ e => sortedAll_old e) (Nat.le_succ _) (show ObjOk X.prog X.w _ _ _ (.lst ws) from ⟨z, _, c, w1, hc⟩)
  exact ⟨.ref _, _, K, rfl, new_lst rep w2 h (I.hok.fresh (Nat.le_succ _))⟩
theorem keys_each : ∀ {kvs : List (D × D)} {es : List DictEntry}, RDe (gx X) ρ H kvs es → EachIs (Sta (gx X) ρ H) (es.map (·.key)) (kvs.map (·.1))
  | _, _, .nil => .nil
  | _, _, .cons a b _ _ _ r => .cons ⟨_, a, b⟩ (keys_each r)
/-- sorted(x), x a dict -/
theorem sorted_dict {pins : List (Addr × Obj)} {σ : L2.St} {s : Shared} {kvs : List (D × D)} {a : Addr} {o : Obj} {es : Array DictEntry} {ep : Nat} {Q : VK} (I : Inv X pins σ H s) (hcalm : X.calm = true) (hu : X.A.units + 64 < cLine) (rep : Rep (gx X) ρ M H)
    (ho : s.heap.get? a = some o) (lo : (a == sysModules) = false) (hx : o.ExactDict) (hd : o.data = .dict es ep) (r : RDe (gx X) ρ H kvs es.toList) (ok : sortOk (kvs.map (·.1)) = true)
    (h : Post (gx X) ρ H (.ok (.lst (sortD (kvs.map (·.1)))) M) (QV (gx X) Q)) : wpAny (model X.prog X.w) X.A (PySem.call (.builtin "sorted") [.ref a]) (EP X pins σ Q) X.xe s := by
  obtain ⟨o1, o2, o3, o4, o4c, o5⟩ := sortOk_of ok
  have e := keys_each r
  have elen := e.length
  rw [List.length_map, Array.length_toList] at elen
  refine Calls.call_function_entry PyProof.Rows.kind_sorted PyProof.Rows.plain_sorted PyProof.Rows.entry_sorted (PyProof.Rows.args_sorted1 _) ?_
  unfold Builtin.«sorted»
  refine wpAny_bind (m := checkCount "sorted" 1 1 _) (wpAny_pure ?_)
  have hL : es.size ≤ sizeLine := by rw [elen]; exact LIM_line o1
  refine wpAny_bind (PySem.W.kdu_collect (A := X.A.in1) (KdlSrc.rawDict (prog := X.prog) (w := X.w) (es := es) (ep := ep) lo) (I.ok.hd hcalm) ⟨o, ho, hx, hd⟩ hL fun h' tk acc hk hacc => ?_)
  have hl : acc.toList = es.toList.map (·.key) := by
    refine List.ext_getElem? fun j => ?_
    rw [Array.getElem?_toList, List.getElem?_map, Array.getElem?_toList]
    cases ej : acc[j]? with
    | none =>
      have : acc.size ≤ j := by simpa using ej
      rw [Array.getElem?_eq_none (by rw [← hacc.1]; exact this)]; rfl
    | some v =>
      obtain ⟨hj, ev⟩ := hacc.2 j v ej
      rw [Array.getElem?_eq_getElem hj, ev]; rfl
  rw [hl]
  generalize hus : es.toList.map (·.key) = us at *
  have ulen : us.length ≤ sizeLine := by rw [← hus, List.length_map, Array.length_toList]; exact hL
  have I1 : Inv X pins σ H { s with heap := h', toks := tk } := I.kept hk
  refine wpAny_bind (wpAny_newList ?_ ulen)
  have hoL : (h'.push (seqObj "list" us.toArray 0)).get? h'.objs.size = some (seqObj "list" us.toArray 0) := Heap.get?_push_size _ rfl
  have old : ∀ b q, h'.get? b = some q → (sortingHeap (h'.push (seqObj "list" us.toArray 0)) h'.objs.size us).get? b = some q := fun b q hb =>
    sortingHeap_old (Nat.ne_of_lt (Heap.lt_size hb)) (Heap.get?_push_of_some _ hb)
  have J : Inv X pins σ H { s with heap := sortingHeap (h'.push (seqObj "list" us.toArray 0)) h'.objs.size us, toks := tk } := I1.kept (t' := tk) old
  have er := each_reads J e o2
  have out := sortVals_cm false e er o4
  obtain ⟨ws, w1, w2⟩ := each_back out
  have S := sortsAt_cm (prog := X.prog) (w := X.w) (A := X.A.in1.in1) (s := { s with heap := sortingHeap (h'.push (seqObj "list" us.toArray 0)) h'.objs.size us, toks := tk }) (each_map (R := fun v d => ∃ as, Reads (sortingHeap (h'.push (seqObj "list" us.toArray 0)) h'.objs.size us) v d as) encD er) o4 o4c o5 (room_of hu o3)
  show wpAny _ _ _ _ _ { s with heap := h'.push (seqObj "list" us.toArray 0), toks := tk }
  refine wpAny_bind (wpAny_holding (wpAny_call_entry PyProof.Rows.slot_list_sort ⟨_, hoL, rfl⟩ PyProof.Rows.entry_list_sort
    (list_sort_vals (s := { s with heap := h'.push (seqObj "list" us.toArray 0), toks := tk }) hoL S ulen ⟨_, rfl, ?_⟩) (PyProof.Rows.args_list_sort _)))
  obtain ⟨c, hc⟩ := PyProof.Rows.sortedHeap_at (vs := us) (out := (sortVals (dataKind (sortingHeap (h'.push (seqObj "list" us.toArray 0)) h'.objs.size us) ((kvs.map (·.1)).map encD)) false us us).toArray) hoL
  have z : ws.length ≤ sizeLine := by rw [w1.length, sortVals_length false rfl]; exact ulen
  refine wpAny_pure ⟨_, rfl, .ref h'.objs.size, _, I1.laid (t' := tk) (o := .lst ws) (fun b q hb => ?_) (Nat.le_refl _) (show ObjOk X.prog X.w _ _ _ (.lst ws) from ⟨z, _, c, w1, hc⟩), rfl, new_lst rep w2 h (I1.hok.fresh (Nat.le_refl _))⟩
  have lt : b < h'.objs.size := Heap.lt_size hb
  rw [PyProof.Rows.sortedHeap_old (Nat.ne_of_lt lt) (by rw [size_push']; exact Nat.lt_succ_of_lt lt)]
  exact Heap.get?_push_of_some _ hb
end
/-! ### dict(x) of pairs -/
section
variable {X : Cx} {ρ : Rho} {H : Hp} {M : Mem}
/-- the values of a pair -/
def PrR (g : Gx) (ρ : Rho) (H : Hp) (p : D × D) (q : Value × Value) : Prop := Sta g ρ H q.1 p.1 ∧ Sta g ρ H q.2 p.2
theorem pair_items {pins : List (Addr × Obj)} {σ : L2.St} {s : Shared} (I : Inv X pins σ H s) : ∀ {l : List D} {vs : List V} {us : List Value} {ps : List (D × D)}, RDs (gx X) ρ H l vs → Vals vs us → pairsD l = some ps →
    ∃ (Ts : List Addr) (qs : List (Value × Value)), us = Ts.map .ref ∧ Ts.length = qs.length ∧ (∀ (j : Nat) (k v : Value), qs[j]? = some (k, v) → ∃ T, Ts[j]? = some T ∧ PairAt s.heap T k v) ∧ Paired (PrR (gx X) ρ H) ps qs
  | _, _, _, _, .nil, .nil, h => by
    cases h
    exact ⟨[], [], rfl, rfl, fun j k v e => by simp at e, .nil⟩
  | d :: _, _, _, _, .cons a r, .cons b t, h => by
    unfold pairsD at h
    split at h
    · rename_i e; cases e
    · rename_i k v r' e
      cases e
      obtain ⟨ps, h1, rfl⟩ := Option.map_eq_some_iff.mp h
      obtain ⟨Ts, qs, e1, e2, e3, e4⟩ := pair_items I r t h1
      cases a with
      | @tup a vs ds h2 q =>
        cases b
        obtain ⟨its, rv, ht, _⟩ := I.tuple h2.seq
        obtain ⟨v1, v2, rfl, r1, r2⟩ := RDs2 q
        obtain ⟨u1, u2, rfl, s1, s2⟩ := vals2 rv
        refine ⟨a :: Ts, (u1, u2) :: qs, by rw [e1]; rfl, by simp [e2], fun j k v e => ?_, .cons ⟨⟨_, r1, s1⟩, ⟨_, r2, s2⟩⟩ e4⟩
        cases j with
        | zero =>
          simp only [List.getElem?_cons_zero, Option.some.injEq, Prod.mk.injEq] at e
          obtain ⟨rfl, rfl⟩ := e
          exact ⟨a, rfl, .inl ht⟩
        | succ j => simpa using e3 j k v (by simpa using e)
    · cases h
theorem leaf_prs : ∀ {ps : List (D × D)} {qs : List (Value × Value)}, Paired (PrR (gx X) ρ H) ps qs → (∀ p ∈ ps, p.1.leaf = true) →
    ∃ prs : List (Key × Value), Paired (EntL (gx X) ρ H) ps prs ∧ prs.length = qs.length ∧ ∀ (i : Nat) (key v : Value), qs[i]? = some (key, v) → ∃ k, prs[i]? = some (k, v) ∧ keyIs k key = true
  | _, _, .nil, _ => ⟨[], .nil, rfl, fun i key v e => by simp at e⟩
  | (a, b) :: _, (u, w) :: _, .cons ⟨⟨v1, r1, s1⟩, v2, r2, s2⟩ t, h => by
    obtain ⟨prs, e1, e2, e3⟩ := leaf_prs t fun p hp => h p (List.mem_cons_of_mem _ hp)
    have hk := h _ List.mem_cons_self
    refine ⟨(lk a, w) :: prs, .cons ⟨hk, rfl, v2, r2, s2⟩ e1, by simp [e2], fun i key v e => ?_⟩
    cases i with
    | zero =>
      simp only [List.getElem?_cons_zero, Option.some.injEq, Prod.mk.injEq] at e
      obtain ⟨rfl, rfl⟩ := e
      exact ⟨_, rfl, leaf_rel hk r1 s1⟩
    | succ i => simpa using e3 i key v (by simpa using e)
theorem tk_prs {pins : List (Addr × Obj)} {σ : L2.St} {s : Shared} (I : Inv X pins σ H s) : ∀ {ps : List (D × D)} {qs : List (Value × Value)}, Paired (PrR (gx X) ρ H) ps qs → (∀ p ∈ ps, p.1.tk = true) →
    ∃ xs : List (NestedKey × Addr × Value), Paired (Ent (gx X) ρ H) ps xs ∧ xs.length = qs.length ∧ (∀ x ∈ xs, (nestedKind X.prog X.w).is s.heap x.1 x.2.1) ∧ ∀ (i : Nat) (key v : Value), qs[i]? = some (key, v) → ∃ k b, xs[i]? = some (k, b, v) ∧ key = Value.ref b
  | _, _, .nil, _ => ⟨[], .nil, rfl, fun x h => (nomatch h), fun i key v e => by simp at e⟩
  | (a, b) :: _, (u, w) :: _, .cons ⟨⟨v1, r1, s1⟩, v2, r2, s2⟩ t, h => by
    obtain ⟨xs, e1, e2, e4, e3⟩ := tk_prs I t fun p hp => h p (List.mem_cons_of_mem _ hp)
    have hk : a.tk = true := h _ List.mem_cons_self
    obtain ⟨c, hc⟩ := tk_ref hk r1 s1
    dsimp only at hc s1
    subst hc
    have hv : v1 = .ref c := RelV.inj s1 rfl
    subst hv
    refine ⟨(a.nk, c, w) :: xs, .cons ⟨rfl, r1, v2, r2, s2⟩ e1, by simp [e2], fun x hx => ?_, fun i key v e => ?_⟩
    · rcases List.mem_cons.mp hx with rfl | hx
      · exact tk_is I hk r1 rfl
      · exact e4 x hx
    · cases i with
      | zero =>
        simp only [List.getElem?_cons_zero, Option.some.injEq, Prod.mk.injEq] at e
        obtain ⟨rfl, rfl⟩ := e
        exact ⟨_, _, rfl, rfl⟩
      | succ i => simpa using e3 i key v (by simpa using e)
theorem leaf_fold : ∀ {ps : List (D × D)} {prs : List (Key × Value)} {acc : List (D × D)} {bcc : List (Key × Value)}, Paired (EntL (gx X) ρ H) acc bcc → Paired (EntL (gx X) ρ H) ps prs → Paired (EntL (gx X) ρ H) (dictF acc ps) (merged bcc prs)
  | _, _, _, _, h, .nil => h
  | p :: ps, (κ, u) :: prs, acc, bcc, h, .cons ⟨k, e, v, r, q⟩ t => by
    dsimp only at e
    subst e
    show Paired (EntL (gx X) ρ H) (dictF (kset acc p.1 p.2) ps) (merged (stored bcc (lk p.1) u) prs)
    exact leaf_fold (entL_set h k r q) t
theorem tk_fold : ∀ {ps : List (D × D)} {xs : List (NestedKey × Addr × Value)} {acc : List (D × D)} {bcc : List (NestedKey × Addr × Value)}, Paired (Ent (gx X) ρ H) acc bcc → Paired (Ent (gx X) ρ H) ps xs → Paired (Ent (gx X) ρ H) (dictF acc ps) (storedAllH bcc xs)
  | _, _, _, _, h, .nil => h
  | p :: ps, (κ, b, u) :: xs, acc, bcc, h, .cons ⟨e, r, v, r2, q⟩ t => by
    dsimp only at e
    subst e
    show Paired (Ent (gx X) ρ H) (dictF (kset acc p.1 p.2) ps) (storedAllH (storedH bcc p.1.nk b u) xs)
    exact tk_fold (set_rel h r r2 q) t
theorem dictF_tk : ∀ {ps acc : List (D × D)}, (∀ p ∈ acc, p.1.tk = true) → (∀ p ∈ ps, p.1.tk = true) → ∀ p ∈ dictF acc ps, p.1.tk = true
  | [], _, h, _ => h
  | p :: ps, acc, h, k => dictF_tk (ps := ps) (kset_tk h (k p List.mem_cons_self)) fun q hq => k q (List.mem_cons_of_mem _ hq)
/-- a new dict: a value or a cell -/
theorem new_dct {pins : List (Addr × Obj)} {σ : L2.St} {s : Shared} {kvs : List (D × D)} {o : Obj} {es : Array DictEntry} {ep : Nat} {h' : Heap} {t' : Nat} {c : Bool} {Q : VK} (I : Inv X pins σ H s) (rep : Rep (gx X) ρ M H)
    (hk : ∀ b q, s.heap.get? b = some q → h'.get? b = some q) (ho : h'.get? s.heap.objs.size = some o) (hx : o.ExactDict) (hd : o.data = .dict es ep) (ok : DOk kvs) (r : RDe (gx X) ρ H kvs es.toList)
    (h : Post (gx X) ρ H (if c then newCell M (.dct kvs) else .ok (.dct kvs) M) (QV (gx X) Q)) : EP X pins σ Q (.ref s.heap.objs.size) { s with heap := h', toks := t' } := by
  have fr := I.hok.fresh (Nat.le_refl s.heap.objs.size)
  have ob : ObjOk X.prog X.w (upd H s.heap.objs.size (xo s.heap.objs.size o)) h' s.heap.objs.size (xo s.heap.objs.size o) := ⟨ho, ⟨_, ho⟩, fun h1 h2 p1 p2 => p2 _ p1⟩
  have I1 := I.laid (t' := t') hk (Nat.le_refl _) ob
  have nb : (s.heap.objs.size == sysModules) = false := beq_eq_false_iff_ne.mpr (Ne.symm (Nat.ne_of_lt I.big))
  refine ⟨.ref s.heap.objs.size, _, I1, rfl, ?_⟩
  cases c with
  | false => exact h _ _ (Ext.new rep fr) (rep.new fr) _ (.dct (.inl ⟨rep.fresh fr, upd_same⟩) nb hx hd ok (r.ext (Ext.new rep fr)))
  | true =>
    refine h _ _ (Ext.cell rep fr) (rep.push fr ⟨_, _, _, upd_same, nb, hx, hd, ok, r.ext (Ext.cell rep fr)⟩ ?_) _ (.obj ?_)
    · rw [← rep.len]; exact r.belowC
    · show (ρ.c ++ [s.heap.objs.size])[M.length]? = _
      rw [← rep.len, List.getElem?_append_right (Nat.le_refl _)]; simp
theorem dict_src {pins : List (Addr × Obj)} {σ : L2.St} {s : Shared} {T : String} {a : Addr} {fp : List Addr} {ps : List (D × D)} {qs : List (Value × Value)} {OK : Heap → Prop} {c : Bool} {Q : VK} (I : Inv X pins σ H s) (hcalm : X.calm = true) (hu : X.A.units + 64 < cLine) (rep : Rep (gx X) ρ M H)
    (P : PairArg X.prog X.w T a fp [] qs.length (PairRel qs) OK) (ok : OK s.heap) (pq : Paired (PrR (gx X) ρ H) ps qs) (hp : pairsOk ps = true)
    (h : Post (gx X) ρ H (if c then newCell M (.dct (dictF [] ps)) else .ok (.dct (dictF [] ps)) M) (QV (gx X) Q)) : wpAny (model X.prog X.w) X.A (PySem.call (.type "dict") [.ref a]) (EP X pins σ Q) X.xe s := by
  simp only [pairsOk, Bool.and_eq_true, decide_eq_true_eq, Bool.or_eq_true, List.all_eq_true] at hp
  obtain ⟨hz, hp⟩ := hp
  have hlen : ps.length = qs.length := Paired.length pq
  have hsz : qs.length ≤ sizeLine := by rw [← hlen]; exact LIM_line hz
  rcases hp with hp | hp
  · obtain ⟨prs, e1, e2, e3⟩ := leaf_prs pq hp
    refine PySem.call_dict_pairs (knd := mixKind X.prog X.w) (kvs := prs) P (I.ok.hd hcalm) ok ⟨e2, fun i key v e => e3 i key v e⟩ hsz fun h' tk dx hk => ?_
    obtain ⟨o', es', ep', ho', hx', hd', ko, pr, nd'⟩ := dx
    have rel := leaf_fold (.nil) e1
    have lf := entL_leaf rel
    refine new_dct I rep (fun b q e => hk b q (fun z => nomatch z) e) ho' hx' hd' ⟨.inl lf, ?_⟩ (entL_rde pr rel fun e he => ko e (by simpa using he)) h
    refine (leaf_nodup lf).mp ?_
    rw [← entL_keys rel]; exact nd'
  · obtain ⟨xs, e1, e2, e4, e3⟩ := tk_prs I pq hp
    refine call_dict_pairsH (knd := nestedKind X.prog X.w) (ps := xs) P (I.ok.hd hcalm) (show X.A.units + 1 + 1 + 8 < cLine by omega) ok ⟨e2, fun i key v e => e3 i key v e⟩ (fun h' hk x hx => nestedKind_stays.stays (fun b q _ _ e _ => hk b q (Nat.ne_of_lt (Heap.lt_size e)) (fun z => nomatch z) e) (e4 x hx)) hsz fun h' tk dx hk => ?_
    obtain ⟨o', es', ep', ho', hx', hd', el, _, nd'⟩ := dx
    have rel := tk_fold (.nil) e1
    refine new_dct I rep (fun b q e => hk b q (fun z => nomatch z) e) ho' hx' hd' ⟨.inr (dictF_tk (fun p z => by cases z) hp), ?_⟩ (by rw [el]; exact ent_rde rel) h
    rw [← ent_keys rel]; exact nd'
theorem AtT.plain {pins : List (Addr × Obj)} {σ : L2.St} {s : Shared} (I : Inv X pins σ H s) {a : Addr} {xs : List V} (h : AtT (gx X) ρ H a xs) : ∃ its : List Value, Vals xs its ∧ PlainSeq "tuple" s.heap a its.toArray := by
  rcases h with ⟨_, its, h⟩ | ⟨o, its, n, h1, h2, h3, h4, h5, h6⟩
  · obtain ⟨e, z, its', r, o', e', _, n', hd'⟩ := (show ObjOk X.prog X.w H s.heap a (tfz its xs) from I.hok a _ h)
    have e : s.heap.get? a = some (tob its) := e
    rw [e] at e'
    cases e'
    injection hd' with d1 _
    have : its = its' := by simpa using congrArg Array.toList d1
    subst this
    exact ⟨its, r, tob its, _, e, rfl, rfl, rfl⟩
  · exact ⟨its.toList, h6, o, n, I.kIn a o h1, h2, h3, by simpa using h4⟩
theorem dict_D {pins : List (Addr × Obj)} {σ : L2.St} {s : Shared} {x : D} {v : V} {u : Value} {ps : List (D × D)} {Q : VK} (I : Inv X pins σ H s) (hcalm : X.calm = true) (hu : X.A.units + 64 < cLine) (rep : Rep (gx X) ρ M H) (rd : RD (gx X) ρ H x v) (rv : RelV v u) (e : (tlOf M x).bind pairsD = some ps) (hp : pairsOk ps = true)
    (h : Post (gx X) ρ H (newCell M (.dct (dictF [] ps))) (QV (gx X) Q)) : wpAny (model X.prog X.w) X.A (PySem.call (.type "dict") [u]) (EP X pins σ Q) X.xe s := by
  obtain ⟨l, h1, h2⟩ := Option.bind_eq_some_iff.mp e
  have items : ∀ {Ts : List Addr} {qs : List (Value × Value)}, Ts.length = qs.length → (∀ (j : Nat) (k v : Value), qs[j]? = some (k, v) → ∃ T, Ts[j]? = some T ∧ PairAt s.heap T k v) → PairItems s.heap (Ts.map Value.ref).toArray (fun j => Ts.getD j 0) qs := fun {Ts qs} e1 e2 => by
    refine ⟨by simp [e1], fun j k v e => ?_⟩
    obtain ⟨T, t1, t2⟩ := e2 j k v e
    have : Ts.getD j 0 = T := by rw [List.getD_eq_getElem?_getD, t1]; rfl
    dsimp only
    rw [this]
    exact ⟨by simp [t1], t2⟩
  by_cases ht : ∃ l', x = .tup l'
  · obtain ⟨l', rfl⟩ := ht
    simp only [tlOf, Option.some.injEq] at h1
    subst h1
    cases rd with
    | @tup a vs ds hA q =>
      cases rv
      obtain ⟨its, r, pl⟩ := hA.plain I
      obtain ⟨Ts, qs, e1, e2, e3, e4⟩ := pair_items I q r h2
      subst e1
      exact dict_src (c := true) I hcalm hu rep (PairArg.tuple a _ (fun j => Ts.getD j 0) qs) ⟨pl, items e2 e3⟩ e4 hp h
  · have h1 : lrOf M x = some l := by
      unfold tlOf at h1
      split at h1
      · exact absurd ⟨_, rfl⟩ ht
      · exact h1
    obtain ⟨a, vs, rfl, hl, q⟩ := lrOf_ok rep rd h1
    cases rv
    obtain ⟨its, r, pl, _⟩ := I.list hl
    obtain ⟨Ts, qs, e1, e2, e3, e4⟩ := pair_items I q r h2
    subst e1
    exact dict_src (c := true) I hcalm hu rep (PairArg.list a _ (fun j => Ts.getD j 0) qs) ⟨pl, items e2 e3⟩ e4 hp h
end
def bltV : Blt → Value
  | .len => .builtin "len"
  | .isi => .builtin "isinstance"
  | .repr => .builtin "repr"
  | .all => .builtin "all"
  | .any => .builtin "any"
  | .int => .type "int"
  | .abs => .builtin "abs"
  | .max => .builtin "max"
  | .min => .builtin "min"
  | .sum => .builtin "sum"
  | .tuple => .type "tuple"
  | .list => .type "list"
  | .divmod => .builtin "divmod"
  | .sorted => .builtin "sorted"
  | .dict => .type "dict"
section
variable {X : Cx} {ρ : Rho} {H : Hp} {M : Mem}
theorem call_bltD (call : D → List D → Mem → Res D) (hc : X.calm = true) (hu : X.A.units + 64 < cLine) (hg : X.A.guards = some []) (b : Blt) : CallR X (bltV b) (rOpN (gx X) (bltD call b)) := by
  intro pins s σ H xs us Q I r h
  obtain ⟨ρ, M, ds, rep, rd, h⟩ := h
  have go : ∀ {f : Value} {r' : List V → Hp → VK → Prop}, CallR X f r' → r' xs H Q → wpAny (model X.prog X.w) X.A (PySem.call f us) (EP X pins σ Q) X.xe s := fun o q => o pins s σ H xs us Q I r q
  have lsts : ∀ {x : D} {v : V} {α : Type} {f : List D → Option α} {y : α}, RD (gx X) ρ H x v → (lstOf M x).bind f = some y → ∃ a vs l, v = .ref a ∧ SqL X.K H a vs ∧ RDs (gx X) ρ H l vs ∧ f l = some y := fun rx e => by
    obtain ⟨l, h1, h2⟩ := Option.bind_eq_some_iff.mp e
    obtain ⟨a, vs, rfl, h3, h4⟩ := lstOf_ok rep rx h1
    exact ⟨a, vs, l, rfl, SqL.of h3, h4, h2⟩
  unfold bltD at h
  split at h
  · -- len
    obtain ⟨v, rfl, rx⟩ := RDs1 rd
    split at h
    · split at h
      · rename_i hl; cases rx; exact go call_len_str ⟨_, rfl, LIM_line hl, h.here rep _ (.int _)⟩
      · exact h.no.elim
    · split at h
      · rename_i l hl
        obtain ⟨a, vs, rfl, h1, q⟩ := seqOf_ok rep rx hl
        exact go call_len_seq ⟨a, vs, rfl, h1, by rw [← q.length]; exact h.here rep _ (.int _)⟩
      · exact h.no.elim
  · -- isinstance
    obtain ⟨v, c, rfl, rx, rt⟩ := RDs2 rd
    split at h
    · rename_i b hb
      unfold isiD at hb
      split at hb
      · cases rt
        split at hb
        · rename_i S hS
          obtain ⟨u1, u2, rfl, r1, r2⟩ := vals2 r
          cases r2
          obtain ⟨mS, P, Z, p, hx⟩ := kit_D I rep rx r1 hS
          exact PySem.W.kia_one Z I.kIn p (kit_of' mS hb) hx fun tk => ⟨.bl b, H, I.tok tk, rfl, h.here rep _ (.bl _)⟩
        · cases hb
      · cases hb
    · exact h.no.elim
  · -- repr
    obtain ⟨v, rfl, rx⟩ := RDs1 rd
    split at h
    · rename_i p hp
      split at h
      · rename_i hl
        simp only [Bool.and_eq_true, decide_eq_true_eq] at hl
        obtain ⟨⟨h1, h2⟩, h3⟩ := hl
        obtain ⟨u, rfl, r1⟩ := vals1 r
        exact repr_D I hu hg (RD.dpt rep rx hp) r1 h1 h2 h3 (h.here rep _ (.str _))
      · exact h.no.elim
    · exact h.no.elim
  · -- all
    obtain ⟨v, rfl, rx⟩ := RDs1 rd
    split at h
    · rename_i bs hb
      obtain ⟨a, vs, l, rfl, h1, q, h2⟩ := lsts rx hb
      rw [bls_ok q h2] at h1
      exact go (cr_all hc) ⟨a, bs, rfl, h1, h.here rep _ (.bl _)⟩
    · exact h.no.elim
  · -- any
    obtain ⟨v, rfl, rx⟩ := RDs1 rd
    split at h
    · rename_i bs hb
      obtain ⟨a, vs, l, rfl, h1, q, h2⟩ := lsts rx hb
      rw [bls_ok q h2] at h1
      exact go (cr_any hc) ⟨a, bs, rfl, h1, h.here rep _ (.bl _)⟩
    · exact h.no.elim
  · -- int
    obtain ⟨v, rfl, rx⟩ := RDs1 rd
    split at h
    · cases rx; exact go call_int1 (.inl ⟨_, rfl, h.here rep _ (.int _)⟩)
    · cases rx; exact go call_int1 (.inr ⟨_, rfl, h.here rep _ (.int _)⟩)
    · exact h.no.elim
  · -- abs
    obtain ⟨v, rfl, rx⟩ := RDs1 rd
    split at h
    · cases rx; exact go call_abs ⟨_, rfl, h.here rep _ (.int _)⟩
    · exact h.no.elim
  · -- max of a list
    obtain ⟨v, rfl, rx⟩ := RDs1 rd
    split at h
    · rename_i m ns hb
      obtain ⟨a, vs, l, rfl, h1, q, h2⟩ := lsts rx hb
      rw [intsD_ok q h2] at h1
      refine go (cr_max hc) ⟨a, m :: ns, rfl, h1, by simp, fun k k1 k2 => ?_⟩
      obtain ⟨m1, m2⟩ := maxI_mem ns m
      have e : k = maxI m ns := Int.le_antisymm (m2 k k1) (k2 _ m1)
      rw [e]; exact h.here rep _ (.int _)
    · exact h.no.elim
  · -- max of two
    obtain ⟨v, u, rfl, rx, ry⟩ := RDs2 rd
    split at h
    · cases rx; cases ry; exact go (call_max2 hc) ⟨_, _, rfl, h.here rep _ (.int _)⟩
    · exact h.no.elim
  · -- min of a list
    obtain ⟨v, rfl, rx⟩ := RDs1 rd
    split at h
    · rename_i m ns hb
      obtain ⟨a, vs, l, rfl, h1, q, h2⟩ := lsts rx hb
      rw [intsD_ok q h2] at h1
      refine go (cr_min hc) ⟨a, m :: ns, rfl, h1, by simp, fun k k1 k2 => ?_⟩
      obtain ⟨m1, m2⟩ := minI_mem ns m
      have e : k = minI m ns := Int.le_antisymm (k2 _ m1) (m2 k k1)
      rw [e]; exact h.here rep _ (.int _)
    · exact h.no.elim
  · -- min of two
    obtain ⟨v, u, rfl, rx, ry⟩ := RDs2 rd
    split at h
    · cases rx; cases ry; exact go (call_min2 hc) ⟨_, _, rfl, h.here rep _ (.int _)⟩
    · exact h.no.elim
  · -- sum
    obtain ⟨v, rfl, rx⟩ := RDs1 rd
    split at h
    · rename_i ns hb
      obtain ⟨a, vs, l, rfl, h1, q, h2⟩ := lsts rx hb
      rw [intsD_ok q h2] at h1
      exact go (cr_sum hc) ⟨a, ns, rfl, h1, h.here rep _ (.int _)⟩
    · exact h.no.elim
  · -- tuple
    obtain ⟨v, rfl, rx⟩ := RDs1 rd
    split at h
    · obtain ⟨a, vs, rfl, h1, q⟩ := RD_tup rx
      exact go call_tupleD ⟨_, _, rfl, .inr ⟨h1, h.here rep _ rx⟩⟩
    · split at h
      · rename_i l hl
        obtain ⟨a, vs, rfl, h1, q⟩ := lrOf_ok rep rx hl
        exact go call_tupleD ⟨_, _, rfl, .inl ⟨h1, fun p its hp => new_tup rep q h hp⟩⟩
      · exact h.no.elim
  · -- list
    obtain ⟨v, rfl, rx⟩ := RDs1 rd
    split at h
    · rename_i l hl
      obtain ⟨a, vs, rfl, h1, q⟩ := seqOf_ok rep rx hl
      exact go call_list_of ⟨_, _, rfl, h1, fun p hp => new_lst rep q h hp⟩
    · exact h.no.elim
  · -- divmod
    obtain ⟨v, u, rfl, rx, ry⟩ := RDs2 rd
    split at h
    · cases rx; cases ry
      split at h
      · rename_i hl
        exact go call_divmodD ⟨_, _, rfl, hl, fun p its hp => new_tup rep (.cons (.int _) (.cons (.int _) .nil)) h hp⟩
      · exact h.no.elim
    · exact h.no.elim
  · -- sorted
    obtain ⟨v, rfl, rx⟩ := RDs1 rd
    obtain ⟨u, rfl, r1⟩ := vals1 r
    split at h
    · rename_i l hl
      split at h
      · rename_i ok
        unfold keysOf at hl
        split at hl
        · rename_i kvs hk
          cases hl
          obtain ⟨a, o, es, ep, rfl, rfl, ho, z, hx, hd, _, re⟩ := dct_at I rep rx r1 hk
          exact sorted_dict I hc hu rep ho z hx hd re ok h
        · obtain ⟨a, vs, rfl, h1, q⟩ := lrOf_ok rep rx hl
          cases r1
          exact sorted_list I hu rep h1 q ok h
      · exact h.no.elim
    · exact h.no.elim
  · -- dict
    obtain ⟨v, rfl, rx⟩ := RDs1 rd
    obtain ⟨u, rfl, r1⟩ := vals1 r
    split at h
    · rename_i ps hps
      split at h
      · rename_i ok
        exact dict_D I hc hu rep rx r1 hps ok h
      · exact h.no.elim
    · exact h.no.elim
  · exact h.no.elim
end
end Ev

set_option Elab.async false
set_option linter.all false
set_option maxRecDepth 100000
set_option maxHeartbeats 1000000
/-! Ev5: how arguments come to parameters. -/
namespace Ev
open PySem PySem.Spec PyProof.Rows L2
section
variable {α β : Type}
def bindF (s : List (Str × α)) : List (Str × α) → List (Str × α)
  | [] => s
  | p :: r => bindF (if (s.lookup p.1).isNone then s ++ [p] else s) r
def bindS (ps ks : List Str) (us ws ds : List α) : List (Str × α) := bindF (ps.zip us ++ ks.zip ws) ((ps.drop (ps.length - ds.length)).zip ds)
def look (s : List (Str × α)) : List Str → Option (List α)
  | [] => some []
  | p :: r => match s.lookup p, look s r with
    | some x, some l => some (x :: l)
    | _, _ => none
def bindP (ps ks : List Str) (us ws ds : List α) : Option (List α) := look (bindS ps ks us ws ds) ps
/-- two lists of the same keys, values related -/
abbrev Rl (R : α → β → Prop) : List (Str × α) → List (Str × β) → Prop := Paired fun p q => p.1 = q.1 ∧ R p.2 q.2
variable {R : α → β → Prop}
theorem Rl.look1 {s : List (Str × α)} {t : List (Str × β)} (h : Rl R s t) (k : Str) : (s.lookup k = none ∧ t.lookup k = none) ∨ ∃ x y, s.lookup k = some x ∧ t.lookup k = some y ∧ R x y := by
  induction h with
  | nil => exact .inl ⟨rfl, rfl⟩
  | @cons p q s t r _ ih =>
    obtain ⟨a, x⟩ := p
    obtain ⟨b, y⟩ := q
    obtain ⟨e, r⟩ := r
    cases e
    rw [List.lookup_cons, List.lookup_cons]
    cases k == a with
    | true => exact .inr ⟨x, y, rfl, rfl, r⟩
    | false => exact ih
theorem Rl.append {s s' : List (Str × α)} {t t' : List (Str × β)} (h : Rl R s t) (h' : Rl R s' t') : Rl R (s ++ s') (t ++ t') := by
  induction h with
  | nil => exact h'
  | cons r _ ih => exact .cons r ih
theorem Rl.zip {us : List α} {vs : List β} (h : Paired R us vs) : ∀ ps : List Str, Rl R (ps.zip us) (ps.zip vs) := by
  induction h with
  | nil => intro ps; rw [List.zip_nil_right, List.zip_nil_right]; exact .nil
  | cons r _ ih =>
    intro ps
    cases ps with
    | nil => exact .nil
    | cons p ps => exact .cons ⟨rfl, r⟩ (ih ps)
theorem Rl.bindF {s' : List (Str × α)} {t' : List (Str × β)} (h' : Rl R s' t') : ∀ {s : List (Str × α)} {t : List (Str × β)}, Rl R s t → Rl R (bindF s s') (bindF t t') := by
  induction h' with
  | nil => exact fun h => h
  | @cons p q s' t' r _ ih =>
    intro s t h
    obtain ⟨a, x⟩ := p
    obtain ⟨b, y⟩ := q
    obtain ⟨e, r⟩ := r
    cases e
    unfold Ev.bindF
    refine ih ?_
    rcases h.look1 a with ⟨h1, h2⟩ | ⟨x', y', h1, h2, _⟩
    · rw [h1, h2]; exact h.append (.cons ⟨rfl, r⟩ .nil)
    · rw [h1, h2]; exact h
theorem Rl.look {s : List (Str × α)} {t : List (Str × β)} (h : Rl R s t) : ∀ (ps : List Str) (l : List α), look s ps = some l → ∃ m, look t ps = some m ∧ Paired R l m
  | [], l, e => by cases e; exact ⟨[], rfl, .nil⟩
  | p :: ps, l, e => by
    unfold Ev.look at e
    rcases h.look1 p with ⟨h1, h2⟩ | ⟨x, y, h1, h2, r⟩
    · rw [h1] at e; cases e
    · rw [h1] at e
      cases e2 : Ev.look s ps with
      | none => rw [e2] at e; cases e
      | some l2 =>
        rw [e2] at e; cases e
        obtain ⟨m, h3, h4⟩ := Rl.look h ps l2 e2
        refine ⟨y :: m, ?_, .cons r h4⟩
        unfold Ev.look; rw [h2, h3]
theorem bindP_rel {ps ks : List Str} {us ws ds : List α} {us' ws' ds' : List β} (h1 : Paired R us us') (h2 : Paired R ws ws') (h3 : Paired R ds ds') {l : List α} (e : bindP ps ks us ws ds = some l) :
    ∃ m, bindP ps ks us' ws' ds' = some m ∧ Paired R l m := by
  have hl : ds.length = ds'.length := Paired.length h3
  refine Rl.look ?_ ps l e
  unfold bindS
  rw [← hl]
  exact Rl.bindF (Rl.zip h3 _) ((Rl.zip h1 _).append (Rl.zip h2 _))
theorem look_zip {s : List (Str × α)} : ∀ (ps : List Str) (l : List α), look s ps = some l → (ps.filterMap fun n => (s.lookup n).map (n, ·)) = ps.zip l
  | [], l, e => by cases e; rfl
  | p :: ps, l, e => by
    unfold look at e
    cases h1 : s.lookup p with
    | none => rw [h1] at e; cases e
    | some x =>
      rw [h1] at e
      cases e2 : look s ps with
      | none => rw [e2] at e; cases e
      | some l2 =>
        rw [e2] at e; cases e
        rw [List.filterMap_cons, h1, List.zip_cons_cons, ← look_zip ps l2 e2]; rfl
end
theorem lookup_app {α : Type} {k : Str} : ∀ {s t : List (Str × α)}, (s ++ t).lookup k = (s.lookup k).or (t.lookup k)
  | [], t => by simp
  | (a, x) :: s, t => by
    rw [List.cons_append, List.lookup_cons, List.lookup_cons]
    cases k == a with
    | true => rfl
    | false => exact lookup_app
/-- the keywords' names are parameters that are not given yet, each once -/
def kwOk (ps : List Str) : List (Str × Unit) → List Str → Bool
  | _, [] => true
  | s, k :: r => ps.contains k && (s.lookup k).isNone && kwOk ps (s ++ [(k, ())]) r
def unitsOf (ps : List Str) : List (Str × Unit) := ps.map fun p => (p, ())
def bindOk (ps ks : List Str) (n nd : Nat) : Bool :=
  decide (n ≤ ps.length) && decide (nd ≤ ps.length) && kwOk ps (unitsOf (ps.take n)) ks && (ps.take (ps.length - nd)).all fun p => ((unitsOf (ps.take n ++ ks)).lookup p).isSome
theorem loop1 {ps : List Str} {F : Str × Value → List (Str × Value) × List (Str × Value) → Sem (ForInStep (List (Str × Value) × List (Str × Value)))}
    (hF : ∀ k v s e, ps.contains k = true → (s.lookup k).isNone = true → F (k, v) (s, e) = pure (.yield (s ++ [(k, v)], e))) :
    ∀ (ks : List Str) (ws : List Value) (s : List (Str × Value)) (u : List (Str × Unit)) (e : List (Str × Value)), ks.length = ws.length → (∀ k, (s.lookup k).isNone = (u.lookup k).isNone) → kwOk ps u ks = true →
      forIn (ks.zip ws) (s, e) F = pure (s ++ ks.zip ws, e)
  | [], [], s, u, e, _, _, _ => by simp
  | [], _ :: _, _, _, _, h, _, _ => by simp at h
  | _ :: _, [], _, _, _, h, _, _ => by simp at h
  | k :: ks, v :: ws, s, u, e, hl, hu, ho => by
    unfold kwOk at ho
    simp only [Bool.and_eq_true] at ho
    rw [List.zip_cons_cons, List.forIn_cons, hF k v s e ho.1.1 (by rw [hu]; exact ho.1.2)]
    simp only [pure_bind]
    rw [loop1 hF ks ws (s ++ [(k, v)]) (u ++ [(k, ())]) e (by simpa using hl) (fun k' => ?_) ho.2]
    · simp
    · rw [lookup_app, lookup_app]
      have := hu k'
      cases h1 : s.lookup k' <;> cases h2 : u.lookup k' <;> rw [h1, h2] at this <;> simp at this ⊢
      simp only [List.lookup_cons, List.lookup_nil]
      cases k' == k <;> rfl
theorem loop2 {G : Str × Value → List (Str × Value) → Sem (ForInStep (List (Str × Value)))} (hG : ∀ p s, G p s = pure (.yield (if (s.lookup p.1).isNone then s ++ [p] else s))) :
    ∀ (l s : List (Str × Value)), forIn l s G = pure (bindF s l)
  | [], s => by simp [bindF]
  | p :: l, s => by
    rw [List.forIn_cons, hG]
    simp only [pure_bind]
    rw [loop2 hG l]; rfl
theorem units_zip {α : Type} (ps : List Str) : ∀ (us : List α) (k : Str), ((ps.zip us).lookup k).isNone = ((unitsOf (ps.take us.length)).lookup k).isNone := by
  induction ps with
  | nil => intro us k; simp [unitsOf]
  | cons p ps ih =>
    intro us k
    cases us with
    | nil => simp [unitsOf]
    | cons u us =>
      simp only [List.zip_cons_cons, List.length_cons, List.take_succ_cons, unitsOf, List.map_cons, List.lookup_cons]
      cases k == p with
      | true => rfl
      | false => exact ih us k
theorem bind_pure {fd : FuncData} {as : List Arg} {xs : List Expr} {ps ks : List Str} {us ws ds fin : List Value} {r : Option (Array Value)}
    (hp : fd.params = ⟨[], as, none, [], [], none, xs⟩) (ha : as.map (·.arg) = ps) (hr : (r.getD #[]).toList = ds) (hk : ks.length = ws.length) (ok : bindOk ps ks us.length ds.length = true) (e : bindP ps ks us ws ds = some fin) :
    ∃ k, bindArgs fd ⟨us, ks.zip ws⟩ = seqItems? fd.defaults >>= k ∧ k r = pure (ps.zip fin) := by
  unfold bindOk at ok
  simp only [Bool.and_eq_true, decide_eq_true_eq] at ok
  obtain ⟨⟨⟨o1, o2⟩, o3⟩, o4⟩ := ok
  unfold bindArgs
  rw [hp]
  simp only [List.map_nil, List.nil_append, ha]
  rw [loop1 (ps := ps) (fun k v s e h1 h2 => ?_) ks ws (ps.zip us) (unitsOf (ps.take us.length)) [] hk (units_zip ps us) o3]
  · simp only [pure_bind]
    refine ⟨_, rfl, ?_⟩
    rw [hr]
    have e1 : ¬ ((decide (us.length > ps.length) && (none : Option Arg).isNone) = true) := by simp; omega
    rw [if_neg e1]
    have e2 : ds.length - ps.length = 0 := by omega
    simp only [e2, List.drop_zero]
    have e3 : (List.filter (fun n => (List.lookup n (ps.zip us ++ ks.zip ws)).isNone) (ps.take (ps.length - ds.length))) = [] := by
      rw [List.filter_eq_nil_iff]
      intro p hp'
      have := List.all_eq_true.mp o4 p hp'
      have e4 : (List.lookup p (ps.zip us ++ ks.zip ws)).isNone = (List.lookup p (unitsOf (ps.take us.length ++ ks))).isNone := by
        have e5 : unitsOf (ps.take us.length ++ ks) = unitsOf (ps.take us.length) ++ unitsOf ks := by simp [unitsOf]
        have e6 := units_zip ks ws p
        rw [← hk, List.take_length] at e6
        rw [e5, lookup_app, lookup_app]
        have e7 := units_zip ps us p
        cases h1 : (ps.zip us).lookup p <;> cases h2 : (unitsOf (ps.take us.length)).lookup p <;> rw [h1, h2] at e7 <;> simp at e7 ⊢
        simpa using e6
      rw [e4]
      simp only [Option.isNone_iff_eq_none, Option.isSome_iff_ne_none] at this ⊢
      exact this
    rw [e3]
    simp only [List.isEmpty_nil, Bool.not_true, Bool.false_eq_true, if_false]
    rw [loop2 (fun p s => ?_)]
    · simp only [pure_bind, List.forIn_nil, List.append_nil, List.isEmpty_nil, Bool.not_true, Bool.false_eq_true, if_false]
      have e8 : bindF (ps.zip us ++ ks.zip ws) ((ps.drop (ps.length - ds.length)).zip ds) = bindS ps ks us ws ds := rfl
      rw [e8, look_zip ps fin e]
    · obtain ⟨a, b⟩ := p
      cases h : (List.lookup a s).isNone <;> simp [h]
  · have h3 : List.lookup k s = none := by simpa using h2
    simp only [h1, Bool.true_or, if_true, h3, Option.isSome_none, Bool.false_eq_true, if_false]
    try rfl
end Ev

set_option Elab.async false
set_option linter.all false
set_option maxRecDepth 100000
set_option maxHeartbeats 1000000
/-! Ev6: a core text that the checker takes for an expression of the program says what that expression does. -/
namespace Ev
open PySem PySem.Spec PyProof.Rows L2

structure FI where
  ps : List Str
  dfl : List D
structure Sx where
  N : List Str
  sc : Scope
  ft : List (Str × FI)
  cs : List Str
  fr : List Str
  fn : List Str
/-- a call of a def of the module, from any frame -/
def CallsOk (g : Gx) (base : Heap) (A : Around) (ft : List (Str × FI)) (E : En) : Prop :=
  ∀ (x : Str) (fi : FI) (f : Addr), ft.lookup x = some fi → g.mg x = some (.ref f) →
    ∀ (outer : List Env) (s : Shared) (H : Hp) (ρ : Rho) (M : Mem) (ks : List Str) (us ws : List Value) (vs zs : List V) (as bs l : List D) (Q : VK) (E' : XK),
      Env0 g.P g.w g.K g.mg base A outer s H → Rep g ρ M H → Vals vs us → Vals zs ws → RDs g ρ H as vs → RDs g ρ H bs zs → ks.length = ws.length →
      bindOk fi.ps ks us.length fi.dfl.length = true → bindP fi.ps ks as bs fi.dfl = some l → Post g ρ H (E.call (.fn x) l M) (QV g Q) →
      codeAny (model g.P g.w) A (.call (.ref f) ⟨us, ks.zip ws⟩) (CR CX0 outer g.P g.w H s Q E') s
structure XOk (S : Sx) (E : En) (X : Cx) : Prop where
  N : X.N = S.N
  sc : X.env.scope = S.sc
  nd : X.N.Nodup
  calm : X.calm = true
  fn : ∀ x ∈ S.fn, X.fn x = true
  xe : PassesOwn (model X.prog X.w) X.A X.env X.xe
  hu : X.A.units + 64 < cLine
  gd : X.A.guards = some []
  cs : ∀ x ∈ S.cs, ∃ d u v, E.G x = some d ∧ X.mg x = some u ∧ RelV v u ∧ ∀ ρ H, RD (gx X) ρ H d v
  fr : ∀ x ∈ S.fr, X.mg x = none
  ft : ∀ x fi, S.ft.lookup x = some fi → ∃ f, X.mg x = some (.ref f) ∧ PySem.W.keepIn X.K (.ref f) = true ∧ E.dfl x = fi.dfl ∧ fi.ps.Nodup ∧ fi.dfl.length ≤ fi.ps.length
  no : ∀ x as M, S.ft.lookup x = none → E.call (.fn x) as M = .bad
  len : ∀ x fi as M, S.ft.lookup x = some fi → as.length ≠ fi.ps.length → E.call (.fn x) as M = .bad
  isfn : ∀ d as M, (∀ x, d ≠ .fn x) → E.call d as M = .bad
  cl : CallsOk (gx X) X.base X.A S.ft E

/-! ### readings -/
def RO (g : Gx) (ρ : Rho) (H : Hp) : Option D → Option V → Prop
  | some d, some v => RD g ρ H d v
  | none, _ => True
  | some _, none => False
abbrev RS (g : Gx) (ρ : Rho) (H : Hp) : St' → L2.St → Prop := Paired (RO g ρ H)
section
variable {g : Gx} {ρ ρ' : Rho} {H H' : Hp}
theorem RS.extW (e : ExtW ρ H ρ' H') {ds : St'} {σ : L2.St} (h : RS g ρ H ds σ) : RS g ρ' H' ds σ := Paired.mapP h fun d v r => by
  cases d with
  | none => trivial
  | some d => cases v with
    | none => exact r
    | some v => exact RD.extW e r
theorem RS.ext (e : Ext ρ H ρ' H') {ds : St'} {σ : L2.St} (h : RS g ρ H ds σ) : RS g ρ' H' ds σ := h.extW e.toExtW
theorem RS.get {ds : St'} {σ : L2.St} (h : RS g ρ H ds σ) : ∀ {i : Nat} {d : D}, ds[i]? = some (some d) → ∃ v, σ[i]? = some (some v) ∧ RD g ρ H d v := by
  induction h with
  | nil => intro i d e; simp at e
  | @cons a b _ _ r _ ih =>
    intro i d e
    cases i with
    | zero =>
      simp at e; subst e
      cases b with
      | none => exact r.elim
      | some v => exact ⟨v, rfl, r⟩
    | succ i => simpa using ih (i := i) (d := d) (by simpa using e)
theorem RS.set {ds : St'} {σ : L2.St} (h : RS g ρ H ds σ) {d : Option D} {v : Option V} (r : RO g ρ H d v) : ∀ i : Nat, RS g ρ H (ds.set i d) (σ.set i v) := by
  induction h with
  | nil => intro i; exact .nil
  | @cons a b _ _ q _ ih =>
    intro i
    cases i with
    | zero => exact .cons r (by assumption)
    | succ i => exact .cons q (ih i)
theorem RS.wipe {ds : St'} {σ : L2.St} (h : RS g ρ H ds σ) : ∀ own : List Nat, RS g ρ H (wipe' ds own) (wipe σ own)
  | [] => h
  | i :: r => (RS.wipe h r).set (d := none) (v := none) trivial i
/-- alike but at such places -/
def Off (sl : List Nat) (σ σ' : L2.St) : Prop := σ'.length = σ.length ∧ ∀ j, j ∉ sl → σ'[j]? = σ[j]?
theorem Off.refl {sl : List Nat} {σ : L2.St} : Off sl σ σ := ⟨rfl, fun _ _ => rfl⟩
theorem Off.trans {s1 s2 s : List Nat} {a b c : L2.St} (x : Off s1 a b) (y : Off s2 b c) (h1 : ∀ i ∈ s1, i ∈ s) (h2 : ∀ i ∈ s2, i ∈ s) : Off s a c :=
  ⟨y.1.trans x.1, fun j hj => (y.2 j fun q => hj (h2 j q)).trans (x.2 j fun q => hj (h1 j q))⟩
theorem wipe_get {σ : L2.St} {j : Nat} : ∀ {own : List Nat}, (wipe σ own)[j]? = if j ∈ own then (if j < σ.length then some none else none) else σ[j]?
  | [] => by simp [L2.wipe]
  | i :: r => by
    show ((wipe σ r).set i none)[j]? = _
    by_cases e : j = i
    · subst e
      rw [List.getElem?_set]
      simp [wipe_length]
    · rw [List.getElem?_set_ne (Ne.symm e), wipe_get (own := r)]
      simp [e]
theorem Off.wipe {sl own : List Nat} {σ σ' : L2.St} (h : Off sl (L2.wipe σ own) σ') (hs : ∀ i ∈ sl, i ∈ own) : L2.wipe σ' own = L2.wipe σ own := by
  refine List.ext_getElem? fun j => ?_
  have h1 := h.1
  rw [wipe_length] at h1
  rw [wipe_get, wipe_get]
  by_cases hj : j ∈ own
  · simp only [hj, if_true, h1]
  · simp only [hj, if_false]
    have := h.2 j fun q => hj (hs j q)
    rw [this, wipe_get]; simp [hj]
end
def tE (g : Gx) (f : St' → Mem → Res D) : TE := fun σ H Q => ∃ ρ M ds, Rep g ρ M H ∧ RS g ρ H ds σ ∧ Post g ρ H (f ds M) (QV g Q)
def tT (g : Gx) (f : St' → Mem → Res Bool) : TT := fun σ H Q => ∃ ρ M ds, Rep g ρ M H ∧ RS g ρ H ds σ ∧ Post g ρ H (f ds M) fun b _ _ H' => Q b H'
def tA (g : Gx) (f : St' → Mem → Res (List D)) : TA := fun σ H Q => ∃ ρ M ds, Rep g ρ M H ∧ RS g ρ H ds σ ∧ Post g ρ H (f ds M) fun l _ ρ' H' => ∀ vs, RDs g ρ' H' l vs → Q vs H'
def tO (g : Gx) (f : St' → Mem → Res (Option Int)) : TO := fun σ H Q => ∃ ρ M ds, Rep g ρ M H ∧ RS g ρ H ds σ ∧ Post g ρ H (f ds M) fun i _ _ H' => Q i H'
def gT (g : Gx) (sl : List Nat) (f : D → St' → Mem → Res St') : TG := fun v σ H Q => ∃ ρ M ds d, Rep g ρ M H ∧ RS g ρ H ds σ ∧ RD g ρ H d v ∧ Post g ρ H (f d ds M) fun ds' _ ρ' H' => ∀ σ', RS g ρ' H' ds' σ' → Off sl σ σ' → Q σ' H'
def gTs (g : Gx) (sl : List Nat) (f : List D → St' → Mem → Res St') : TGs := fun vs σ H Q => ∃ ρ M ds l, Rep g ρ M H ∧ RS g ρ H ds σ ∧ RDs g ρ H l vs ∧ Post g ρ H (f l ds M) fun ds' _ ρ' H' => ∀ σ', RS g ρ' H' ds' σ' → Off sl σ σ' → Q σ' H'
theorem PE.mono {X : Cx} {e : Expr} {t t' : TE} (h : PE X e t) (k : ∀ σ H Q, t' σ H Q → t σ H Q) : PE X e t' := ⟨fun pins s σ H Q I q => h.run pins s σ H Q I (k σ H Q q)⟩
theorem PT.mono {X : Cx} {e : Expr} {t t' : TT} (h : PT X e t) (k : ∀ σ H Q, t' σ H Q → t σ H Q) : PT X e t' := ⟨fun pins s σ H Q I q => h.run pins s σ H Q I (k σ H Q q)⟩
theorem PA.mono {X : Cx} {e : List Expr} {t t' : TA} (h : PA X e t) (k : ∀ σ H Q, t' σ H Q → t σ H Q) : PA X e t' := ⟨fun pos pins s σ H Q I q => h.run pos pins s σ H Q I (k σ H Q q)⟩
theorem PG.mono {X : Cx} {e : Expr} {t t' : TG} (h : PG X e t) (k : ∀ v σ H Q, t' v σ H Q → t v σ H Q) : PG X e t' := ⟨fun pins s σ H v u Q I r q => h.run pins s σ H v u Q I r (k v σ H Q q)⟩
theorem PO.mono {X : Cx} {e : Option Expr} {t t' : TO} (h : PO X e t) (k : ∀ σ H Q, t' σ H Q → t σ H Q) : PO X e t' := ⟨fun pins s σ H Q I q => h.run pins s σ H Q I (k σ H Q q)⟩

/-! ### syntax -/
def notStar : Expr → Bool
  | .Starred .. => false
  | _ => true
theorem star_of {e : Expr} {es : List Expr} {env : Env} (h : notStar e = true) : starEach (e :: es) env = (false, eval e env) :: starEach es env := by
  cases e <;> first | rfl | (exact absurd h Bool.false_ne_true)
theorem star_all {env : Env} : ∀ {es : List Expr}, es.all notStar = true → starEach es env = es.map fun e => (false, eval e env)
  | [], _ => rfl
  | e :: es, h => by
    simp only [List.all_cons, Bool.and_eq_true] at h
    rw [star_of h.1, star_all h.2]; rfl
theorem back_plain {env : Env} {pos : Pos} {es : List Expr} (h : es.all notStar = true) : (backTo pos (starEach es env)).any (·.1) = false := by
  rw [star_all h]
  simp [backTo]
def plainT : Expr → Bool
  | .UnaryOp .Not _ _ => false
  | .BoolOp .. => false
  | .IfExp .. => false
  | .Compare .. => false
  | _ => true
theorem plain_test {e : Expr} {env : Env} (h : plainT e = true) (whole : Sem Value) : isTrue e env whole = (do let v ← whole; standAt e.pos; holding [v] (truthy v)) := by
  cases e <;> first | rfl | (exact absurd h Bool.false_ne_true) | skip
  rename_i op x p
  cases op <;> first | rfl | (exact absurd h Bool.false_ne_true)
def plainI : Expr → Bool
  | .Slice .. => false
  | _ => true
theorem plain_ix {e : Expr} (h : plainI e = true) : PlainIx e := by
  intro o i
  cases e <;> first | rfl | (exact absurd h Bool.false_ne_true)
def baseOk : Expr → Bool
  | .Call (.Name _ _) [] [] _ => false
  | _ => true
theorem base_of {o : Expr} {a : Str} {env : Env} {w : Sem Value} (h : baseOk o = true) : attributeBase o a env w = w := by
  unfold attributeBase
  split
  · exact absurd h Bool.false_ne_true
  · rfl
def notSet : Expr → Bool
  | .Set .. => false
  | _ => true
theorem fold_of {e : Expr} {env : Env} (h : notSet e = true) (x : Value) : foldedSetIterable e env x = pure x := by
  cases e <;> first | rfl | (exact absurd h Bool.false_ne_true)
end Ev

set_option Elab.async false
set_option linter.all false
set_option maxRecDepth 100000
set_option maxHeartbeats 1000000
/-! Ev7: one construct after another. -/
namespace Ev
open PySem PySem.Spec PyProof.Rows L2
theorem cmpD_bl {op : CmpOp} {x y d : D} {M M' : Mem} (h : cmpD op x y M = .ok d M') : ∃ b, d = .bl b ∧ M' = M := by
  unfold cmpD cmpEq cmpIn ordD isD at h
  repeat' (split at h)
  all_goals first | (cases h; exact ⟨_, rfl, rfl⟩) | cases h
section
variable {X : Cx} {fa fb fc : St' → Mem → Res D} {a b c : Expr} {pos : Pos}
theorem two {f : D → D → Mem → Res D} {σ : L2.St} {H : Hp} {Q : VK} (h : tE (gx X) (fun σ M => (fa σ M).bind fun x M => (fb σ M).bind fun y M => f x y M) σ H Q) : tOp (rOp2 (gx X) f) (tE (gx X) fa) (tE (gx X) fb) σ H Q := by
  obtain ⟨ρ, M, ds, rep, rs, h⟩ := h
  refine ⟨ρ, M, ds, rep, rs, h.bind.mono fun x M1 ρ1 H1 e1 r1 h => ?_⟩
  intro v rv
  refine ⟨ρ1, M1, ds, r1, rs.ext e1, h.bind.mono fun y M2 ρ2 H2 e2 r2 h => ?_⟩
  intro u ru
  exact ⟨ρ2, M2, x, y, r2, rv.ext e2, ru, h⟩
theorem one {f : D → Mem → Res D} {σ : L2.St} {H : Hp} {Q : VK} (h : tE (gx X) (fun σ M => (fa σ M).bind fun x M => f x M) σ H Q) : tE (gx X) fa σ H fun x H1 => rOp1 (gx X) f x H1 Q := by
  obtain ⟨ρ, M, ds, rep, rs, h⟩ := h
  exact ⟨ρ, M, ds, rep, rs, h.bind.mono fun x M1 ρ1 H1 e1 r1 h v rv => ⟨ρ1, M1, x, r1, rv, h⟩⟩
theorem den_bin {op : Operator} (ha : PE X a (tE (gx X) fa)) (hb : PE X b (tE (gx X) fb)) : PE X (.BinOp a op b pos) (tE (gx X) fun σ M => (fa σ M).bind fun x M => (fb σ M).bind fun y M => binD op x y M) :=
  PE.mono (pe_op (op_binD op) ha hb) fun _ _ _ h => two h
theorem den_una {op : UnaryOp} (ha : PE X a (tE (gx X) fa)) : PE X (.UnaryOp op a pos) (tE (gx X) fun σ M => (fa σ M).bind fun x M => unaD op x M) :=
  PE.mono (pe_un (op_unaD op) ha) fun _ _ _ h => one h
theorem den_cmp {op : CmpOp} (hu : X.A.units + 64 < cLine) (ha : PE X a (tE (gx X) fa)) (hb : PE X b (tE (gx X) fb)) (hm : behindInMarks op b = false) : PE X (.Compare a [op] [b] pos) (tE (gx X) fun σ M => (fa σ M).bind fun x M => (fb σ M).bind fun y M => cmpD op x y M) :=
  PE.mono (pe_cmpR (op_cmpD hu op) ha hb hm) fun _ _ _ h => two h
theorem den_idx (hu : X.A.units + 64 < cLine) (ha : PE X a (tE (gx X) fa)) (hb : PE X b (tE (gx X) fb)) (hs : plainI b = true) : PE X (.Subscript a b pos) (tE (gx X) fun σ M => (fa σ M).bind fun x M => (fb σ M).bind fun y M => idxD x y M) :=
  PE.mono (pe_ix (ix_D hu) ha hb (plain_ix hs)) fun _ _ _ h => two h
theorem den_chn {op op' : CmpOp} (hu : X.A.units + 64 < cLine) (ha : PE X a (tE (gx X) fa)) (hb : PE X b (tE (gx X) fb)) (hc : PE X c (tE (gx X) fc)) (hm : behindInMarks op b = false) (hm' : behindInMarks op' c = false)  :
    PE X (.Compare a [op, op'] [b, c] pos) (tE (gx X) fun σ M => (fa σ M).bind fun x M => (fb σ M).bind fun y M => (cmpD op x y M).bind fun r M => match r with
      | .bl true => (fc σ M).bind fun z M => cmpD op' y z M
      | .bl false => .ok (.bl false) M
      | _ => .bad) := by
  refine PE.mono (pe_chain (op_cmpD hu op) (op_cmpD hu op') ha hb hc (hm := hm')) fun σ H Q h => ?_
  obtain ⟨ρ, M, ds, rep, rs, h⟩ := h
  refine ⟨ρ, M, ds, rep, rs, h.bind.mono fun x M1 ρ1 H1 e1 r1 h => ?_⟩
  intro v rv
  refine ⟨ρ1, M1, ds, r1, rs.ext e1, h.bind.mono fun y M2 ρ2 H2 e2 r2 h => ?_⟩
  intro u ru
  refine ⟨ρ2, M2, x, y, r2, rv.ext e2, ru, h.bind.mono fun r M3 ρ3 H3 e3 r3 h => ?_⟩
  intro z rz
  cases r with
  | bl t =>
    cases rz
    refine ⟨t, rfl, ?_⟩
    cases t with
    | true =>
      refine ⟨ρ3, M3, ds, r3, ((rs.ext e1).ext e2).ext e3, h.bind.mono fun w M4 ρ4 H4 e4 r4 h => ?_⟩
      intro k rk
      exact ⟨ρ4, M4, y, w, r4, (ru.ext e3).ext e4, rk, h⟩
    | false => exact h.here r3 _ (.bl _)
  | _ => exact h.no.elim
/-! ### truth -/
theorem den_test (ha : PE X a (tE (gx X) fa)) (hp : plainT a = true) : PT X a (tT (gx X) fun σ M => (fa σ M).bind fun x M => truR x M) := by
  refine PT.mono (pt_truth ha (plain_test hp)) fun σ H Q h => ?_
  obtain ⟨ρ, M, ds, rep, rs, h⟩ := h
  refine ⟨ρ, M, ds, rep, rs, h.bind.mono fun x M1 ρ1 H1 e1 r1 h v rv => ?_⟩
  unfold truR at h
  split at h
  · rename_i b hb; exact ⟨b, truth_ok r1 rv hb, h.here r1⟩
  · exact h.no.elim
theorem den_and {op : List Expr} (ha : PE X a (tE (gx X) fa)) (hb : PE X (.BoolOp .And (b :: op) pos) (tE (gx X) fb)) : PE X (.BoolOp .And (a :: b :: op) pos) (tE (gx X) fun σ M => (fa σ M).bind fun x M => (truR x M).bind fun t M => match t with
    | true => fb σ M
    | false => .ok x M) := by
  refine PE.mono (pe_andT ha hb) fun σ H Q h => ?_
  obtain ⟨ρ, M, ds, rep, rs, h⟩ := h
  refine ⟨ρ, M, ds, rep, rs, h.bind.mono fun x M1 ρ1 H1 e1 r1 h v rv => ?_⟩
  unfold truR at h
  cases hb : truth M1 x with
  | none => rw [hb] at h; exact h.no.elim
  | some t =>
    rw [hb] at h
    refine ⟨t, truth_ok r1 rv hb, ?_⟩
    cases t with
    | true => rw [if_pos rfl]; exact ⟨ρ1, M1, ds, r1, rs.ext e1, h⟩
    | false => rw [if_neg Bool.false_ne_true]; exact h.here r1 _ rv
theorem den_or {op : List Expr} (ha : PE X a (tE (gx X) fa)) (hb : PE X (.BoolOp .Or (b :: op) pos) (tE (gx X) fb)) : PE X (.BoolOp .Or (a :: b :: op) pos) (tE (gx X) fun σ M => (fa σ M).bind fun x M => (truR x M).bind fun t M => match t with
    | true => .ok x M
    | false => fb σ M) := by
  refine PE.mono (pe_orT ha hb) fun σ H Q h => ?_
  obtain ⟨ρ, M, ds, rep, rs, h⟩ := h
  refine ⟨ρ, M, ds, rep, rs, h.bind.mono fun x M1 ρ1 H1 e1 r1 h v rv => ?_⟩
  unfold truR at h
  cases hb : truth M1 x with
  | none => rw [hb] at h; exact h.no.elim
  | some t =>
    rw [hb] at h
    refine ⟨t, truth_ok r1 rv hb, ?_⟩
    cases t with
    | true => rw [if_pos rfl]; exact h.here r1 _ rv
    | false => rw [if_neg Bool.false_ne_true]; exact ⟨ρ1, M1, ds, r1, rs.ext e1, h⟩
theorem den_not (ha : PE X a (tE (gx X) fa)) : PE X (.UnaryOp .Not a pos) (tE (gx X) fun σ M => (fa σ M).bind fun x M => (truR x M).bind fun t M => .ok (.bl !t) M) := by
  refine PE.mono (pe_notT ha) fun σ H Q h => ?_
  obtain ⟨ρ, M, ds, rep, rs, h⟩ := h
  refine ⟨ρ, M, ds, rep, rs, h.bind.mono fun x M1 ρ1 H1 e1 r1 h v rv => ?_⟩
  unfold truR at h
  cases hb : truth M1 x with
  | none => rw [hb] at h; exact h.no.elim
  | some t =>
    rw [hb] at h
    exact ⟨t, truth_ok r1 rv hb, h.here r1 _ (.bl _)⟩
variable {ta tb tc : St' → Mem → Res Bool}
theorem den_ite (ht : PT X a (tT (gx X) ta)) (hb : PE X b (tE (gx X) fb)) (hc : PE X c (tE (gx X) fc)) : PE X (.IfExp a b c pos) (tE (gx X) fun σ M => (ta σ M).bind fun t M => match t with
    | true => fb σ M
    | false => fc σ M) := by
  refine PE.mono (pe_ifExp ht hb hc) fun σ H Q h => ?_
  obtain ⟨ρ, M, ds, rep, rs, h⟩ := h
  refine ⟨ρ, M, ds, rep, rs, h.bind.mono fun t M1 ρ1 H1 e1 r1 h => ?_⟩
  cases t with
  | true => rw [if_pos rfl]; exact ⟨ρ1, M1, ds, r1, rs.ext e1, h⟩
  | false => rw [if_neg Bool.false_ne_true]; exact ⟨ρ1, M1, ds, r1, rs.ext e1, h⟩
/-! tests by their own roads -/
theorem dt_and {op : List Expr} (ha : PT X a (tT (gx X) ta)) (hb : PW X (.BoolOp .And (b :: op) pos) (tT (gx X) tb)) : PW X (.BoolOp .And (a :: b :: op) pos) (tT (gx X) fun σ M => (ta σ M).bind fun t M => match t with
    | true => tb σ M
    | false => .ok false M) := by
  refine ⟨fun whole pins s σ H Q I h => (pw_and ha hb).run whole pins s σ H Q I ?_⟩
  obtain ⟨ρ, M, ds, rep, rs, h⟩ := h
  refine ⟨ρ, M, ds, rep, rs, h.bind.mono fun t M1 ρ1 H1 e1 r1 h => ?_⟩
  cases t with
  | true => rw [if_pos rfl]; exact ⟨ρ1, M1, ds, r1, rs.ext e1, h⟩
  | false => rw [if_neg Bool.false_ne_true]; exact h.here r1
theorem dt_or {op : List Expr} (ha : PT X a (tT (gx X) ta)) (hb : PW X (.BoolOp .Or (b :: op) pos) (tT (gx X) tb)) : PW X (.BoolOp .Or (a :: b :: op) pos) (tT (gx X) fun σ M => (ta σ M).bind fun t M => match t with
    | true => .ok true M
    | false => tb σ M) := by
  refine ⟨fun whole pins s σ H Q I h => (pw_or ha hb).run whole pins s σ H Q I ?_⟩
  obtain ⟨ρ, M, ds, rep, rs, h⟩ := h
  refine ⟨ρ, M, ds, rep, rs, h.bind.mono fun t M1 ρ1 H1 e1 r1 h => ?_⟩
  cases t with
  | true => rw [if_pos rfl]; exact h.here r1
  | false => rw [if_neg Bool.false_ne_true]; exact ⟨ρ1, M1, ds, r1, rs.ext e1, h⟩
theorem dt_not (ha : PT X a (tT (gx X) ta)) : PT X (.UnaryOp .Not a pos) (tT (gx X) fun σ M => (ta σ M).bind fun t M => .ok (!t) M) := by
  refine PT.mono (pt_not ha) fun σ H Q h => ?_
  obtain ⟨ρ, M, ds, rep, rs, h⟩ := h
  exact ⟨ρ, M, ds, rep, rs, h.bind.mono fun t M1 ρ1 H1 e1 r1 h => h.here r1⟩
theorem dt_cmp {op : CmpOp} (hu : X.A.units + 64 < cLine) (ha : PE X a (tE (gx X) fa)) (hb : PE X b (tE (gx X) fb)) (hm : behindInMarks op b = false) : PT X (.Compare a [op] [b] pos) (tT (gx X) fun σ M => ((fa σ M).bind fun x M => (fb σ M).bind fun y M => cmpD op x y M).bind fun x M => truR x M) := by
  refine PT.mono (pt_cmpR (op_cmpD hu op) ha hb hm) fun σ H Q h => ?_
  obtain ⟨ρ, M, ds, rep, rs, h⟩ := h
  refine two ⟨ρ, M, ds, rep, rs, ?_⟩
  dsimp only at h ⊢
  rw [Res.bind_assoc] at h
  cases ea : fa ds M with
  | ok x M1 =>
    rw [ea] at h
    simp only [Res.bind_ok, Res.bind_assoc] at h ⊢
    cases eb : fb ds M1 with
    | ok y M2 =>
      rw [eb] at h
      simp only [Res.bind_ok] at h ⊢
      cases ec : cmpD op x y M2 with
      | ok d M3 =>
        obtain ⟨t, rfl, rfl⟩ := cmpD_bl ec
        rw [ec] at h
        intro ρ' H' e' r' v rv
        cases rv
        exact ⟨t, rfl, h ρ' H' e' r'⟩
      | exc _ _ => rw [ec] at h; exact h
      | bad => rw [ec] at h; exact h
    | exc _ _ => rw [eb] at h; exact h
    | bad => rw [eb] at h; exact h
  | exc _ _ => rw [ea] at h; exact h
  | bad => rw [ea] at h; exact h
theorem dt_chn {op op' : CmpOp} (hu : X.A.units + 64 < cLine) (ha : PE X a (tE (gx X) fa)) (hb : PE X b (tE (gx X) fb)) (hc : PE X c (tE (gx X) fc)) (hm : behindInMarks op b = false) (hm' : behindInMarks op' c = false)  :
    PT X (.Compare a [op, op'] [b, c] pos) (tT (gx X) fun σ M => (fa σ M).bind fun x M => (fb σ M).bind fun y M => (cmpD op x y M).bind fun r M => match r with
      | .bl true => (fc σ M).bind fun z M => (cmpD op' y z M).bind fun x M => truR x M
      | .bl false => .ok false M
      | _ => .bad) := by
  refine PT.mono (pt_chain (op_cmpD hu op) (op_cmpD hu op') ha hb hc (hm := hm')) fun σ H Q h => ?_
  obtain ⟨ρ, M, ds, rep, rs, h⟩ := h
  refine ⟨ρ, M, ds, rep, rs, h.bind.mono fun x M1 ρ1 H1 e1 r1 h => ?_⟩
  intro v rv
  refine ⟨ρ1, M1, ds, r1, rs.ext e1, h.bind.mono fun y M2 ρ2 H2 e2 r2 h => ?_⟩
  intro u ru
  refine ⟨ρ2, M2, x, y, r2, rv.ext e2, ru, h.bind.mono fun r M3 ρ3 H3 e3 r3 h => ?_⟩
  intro z rz
  cases r with
  | bl t =>
    cases rz
    refine ⟨t, rfl, ?_⟩
    cases t with
    | true =>
      refine ⟨ρ3, M3, ds, r3, ((rs.ext e1).ext e2).ext e3, h.bind.mono fun w M4 ρ4 H4 e4 r4 h => ?_⟩
      intro k rk
      refine ⟨ρ4, M4, y, w, r4, (ru.ext e3).ext e4, rk, ?_⟩
      cases ec : cmpD op' y w M4 with
      | ok d M5 =>
        obtain ⟨t, rfl, rfl⟩ := cmpD_bl ec
        rw [ec] at h
        intro ρ' H' e' r' v rv
        cases rv
        exact ⟨t, rfl, h ρ' H' e' r'⟩
      | exc _ _ => rw [ec] at h; exact h
      | bad => rw [ec] at h; exact h
    | false => exact ⟨false, rfl, h.here r3⟩
  | _ => exact h.no.elim
/-! ### argument lists, displays, slices -/
variable {es : List Expr} {fl : St' → Mem → Res (List D)}
theorem den_nil : PA X [] (tA (gx X) fun _ M => .ok [] M) := by
  refine PA.mono pa_nil fun σ H Q h => ?_
  obtain ⟨ρ, M, ds, rep, rs, h⟩ := h
  exact h.here rep _ .nil
theorem den_cons (ha : PE X a (tE (gx X) fa)) (hl : PA X es (tA (gx X) fl)) (hs : notStar a = true) : PA X (a :: es) (tA (gx X) fun σ M => (fa σ M).bind fun x M => (fl σ M).bind fun xs M => .ok (x :: xs) M) := by
  refine PA.mono (pa_cons ha hl (star_of hs)) fun σ H Q h => ?_
  obtain ⟨ρ, M, ds, rep, rs, h⟩ := h
  refine ⟨ρ, M, ds, rep, rs, h.bind.mono fun x M1 ρ1 H1 e1 r1 h => ?_⟩
  intro v rv
  refine ⟨ρ1, M1, ds, r1, rs.ext e1, h.bind.mono fun y M2 ρ2 H2 e2 r2 h => ?_⟩
  intro u ru
  exact h.here r2 _ (.cons (rv.ext e2) ru)
theorem den_tup {k : Nat} (hl : PA X es (tA (gx X) fl)) : PE X (.Tuple es k pos) (tE (gx X) fun σ M => (fl σ M).bind fun ds M => if ds.length ≤ LIM then .ok (.tup ds) M else .bad) := by
  refine PE.mono (pe_tupD hl) fun σ H Q h => ?_
  obtain ⟨ρ, M, ds, rep, rs, h⟩ := h
  refine ⟨ρ, M, ds, rep, rs, h.bind.mono fun l M1 ρ1 H1 e1 r1 h vs rv => ?_⟩
  split at h
  · rename_i hz; exact ⟨by rw [← rv.length]; exact LIM_line hz, fun p its hp => new_tup r1 rv h hp⟩
  · exact h.no.elim
theorem den_lst {k : Bool} (hl : PA X es (tA (gx X) fl)) : PE X (.List es pos) (tE (gx X) fun σ M => (fl σ M).bind fun ds M => if ds.length ≤ LIM then fresh k ds M else .bad) := by
  refine PE.mono (pe_lst hl) fun σ H Q h => ?_
  obtain ⟨ρ, M, ds, rep, rs, h⟩ := h
  refine ⟨ρ, M, ds, rep, rs, h.bind.mono fun l M1 ρ1 H1 e1 r1 h vs rv => ?_⟩
  split at h
  · rename_i hz; exact ⟨by rw [← rv.length]; exact LIM_line hz, fun p hp => new_fresh r1 rv h hp⟩
  · exact h.no.elim
theorem den_ono : PO X none (tO (gx X) fun _ M => (Res.ok none M).bind optR) := by
  refine PO.mono po_none fun σ H Q h => ?_
  obtain ⟨ρ, M, ds, rep, rs, h⟩ := h
  exact h.here rep
theorem den_osome (ha : PE X a (tE (gx X) fa)) : PO X (some a) (tO (gx X) fun σ M => ((fa σ M).bind fun x M => .ok (some x) M).bind optR) := by
  refine PO.mono (po_some ha) fun σ H Q h => ?_
  obtain ⟨ρ, M, ds, rep, rs, h⟩ := h
  dsimp only at h
  rw [Res.bind_assoc] at h
  refine ⟨ρ, M, ds, rep, rs, h.bind.mono fun x M1 ρ1 H1 e1 r1 h v rv => ?_⟩
  cases rv with
  | int i => exact ⟨_, rfl, h.here r1⟩
  | _ => exact h.no.elim
theorem den_sli {lo hi : Option Expr} {fo fh : St' → Mem → Res (Option Int)} {p2 : Pos} (ha : PE X a (tE (gx X) fa)) (hl : PO X lo (tO (gx X) fo)) (hh : PO X hi (tO (gx X) fh)) : PE X (.Subscript a (.Slice lo hi none p2) pos) (tE (gx X) fun σ M => (fa σ M).bind fun x M => (fo σ M).bind fun l M => (fh σ M).bind fun h M => sliD x l h M) := by
  refine PE.mono (pe_slice sl_D ha hl hh) fun σ H Q h => ?_
  obtain ⟨ρ, M, ds, rep, rs, h⟩ := h
  refine ⟨ρ, M, ds, rep, rs, h.bind.mono fun x M1 ρ1 H1 e1 r1 h => ?_⟩
  intro v rv
  refine ⟨ρ1, M1, ds, r1, rs.ext e1, h.bind.mono fun l M2 ρ2 H2 e2 r2 h => ?_⟩
  exact ⟨ρ2, M2, ds, r2, (rs.ext e1).ext e2, h.bind.mono fun u M3 ρ3 H3 e3 r3 h => ⟨ρ3, M3, x, r3, (rv.ext e2).ext e3, h⟩⟩
/-! ### calls -/
variable {es : List Expr} {fl : St' → Mem → Res (List D)}
theorem den_blt (E : En) (b : Blt) {f : Str} {p : Pos} {cs : List Expr} {c0 : Expr} (hc : X.calm = true) (hu : X.A.units + 64 < cLine) (hgd : X.A.guards = some []) (hg : Gl X f) (hm : X.mg f = none) (hv : bootBuiltins f = some (bltV b)) (hl : PA X (c0 :: cs) (tA (gx X) fl))
    (hs : (c0 :: cs).all notStar = true) (hn : f ≠ "__name__") (hdb : (f == ("__debug__" : Str)) = false) : PE X (.Call (.Name f p) (c0 :: cs) [] pos) (tE (gx X) fun σ M => (fl σ M).bind fun ds M => bltD E.call b ds M) := by
  have h0 : starEach (c0 :: cs) X.env = (false, eval c0 X.env) :: starEach cs X.env := star_of (by simp only [List.all_cons, Bool.and_eq_true] at hs; exact hs.1)
  have h1 : (backTo pos (starEach cs X.env)).any (·.1) = false := back_plain (by simp only [List.all_cons, Bool.and_eq_true] at hs; exact hs.2)
  have go : PE X (.Call (.Name f p) (c0 :: cs) [] pos) (tCB (rOpN (gx X) (bltD E.call b)) (tA (gx X) fl)) := by
    have cr := call_bltD (X := X) E.call hc hu hgd b
    cases b <;> first | exact pe_callB cr hg hm hv hl hn hdb h0 h1 | exact pe_callTy cr hg hm hv hl hn hdb h0 h1
  refine PE.mono go fun σ H Q h => ?_
  obtain ⟨ρ, M, ds, rep, rs, h⟩ := h
  exact ⟨ρ, M, ds, rep, rs, h.bind.mono fun l M1 ρ1 H1 e1 r1 h vs rv => ⟨ρ1, M1, l, r1, rv, h⟩⟩
end
end Ev

set_option Elab.async false
set_option linter.all false
set_option maxRecDepth 100000
set_option maxHeartbeats 1000000
/-! Ev8: calls of the module's defs, methods, walks and comprehensions. -/
namespace Ev
open PySem PySem.Spec PyProof.Rows L2
def kwNames (kws : List Keyword) : List Str := kws.filterMap (·.arg)
def kwAll (kws : List Keyword) : Bool := kws.all fun k => k.arg.isSome
def inls : Nat → Nat → List (Nat ⊕ Nat)
  | _, 0 => []
  | i, n + 1 => .inl i :: inls (i + 1) n
def inrs : Nat → Nat → List (Nat ⊕ Nat)
  | _, 0 => []
  | i, n + 1 => .inr i :: inrs (i + 1) n
theorem inls_rel {ds dfl : List D} : ∀ {l : List D} {i : Nat}, (∀ j, j < l.length → ds[i + j]? = l[j]?) → Paired (fun a d => pick ds dfl a = some d) (inls i l.length) l := by
  intro l
  induction l with
  | nil => intro i _; exact .nil
  | cons d l ih =>
    intro i h
    refine .cons (by simpa [pick] using h 0 (by simp)) (ih fun j hj => ?_)
    have := h (j + 1) (by simpa using hj)
    simpa [Nat.add_assoc, Nat.add_comm 1 j] using this
theorem inrs_rel {ds dfl : List D} : ∀ {l : List D} {i : Nat}, (∀ j, j < l.length → dfl[i + j]? = l[j]?) → Paired (fun a d => pick ds dfl a = some d) (inrs i l.length) l := by
  intro l
  induction l with
  | nil => intro i _; exact .nil
  | cons d l ih =>
    intro i h
    refine .cons (by simpa [pick] using h 0 (by simp)) (ih fun j hj => ?_)
    have := h (j + 1) (by simpa using hj)
    simpa [Nat.add_assoc, Nat.add_comm 1 j] using this
theorem arrange_of {vs ds : List D} : ∀ {ord : List (Nat ⊕ Nat)} {l : List D}, Paired (fun a d => pick vs ds a = some d) ord l → arrange vs ds ord = some l
  | _, _, .nil => rfl
  | _, _, .cons r t => by unfold arrange; rw [r, arrange_of t]
/-- what an order for n written and named values and all defaults gives -/
theorem arrange_bind {ps ks : List Str} {as bs dfl : List D} {ord : List (Nat ⊕ Nat)} (h : bindP ps ks (inls 0 as.length) (inls as.length bs.length) (inrs 0 dfl.length) = some ord) : ∃ l, bindP ps ks as bs dfl = some l ∧ arrange (as ++ bs) dfl ord = some l := by
  obtain ⟨l, h1, h2⟩ := bindP_rel (R := fun a d => pick (as ++ bs) dfl a = some d) (us' := as) (ws' := bs) (ds' := dfl)
    (inls_rel fun j hj => by rw [Nat.zero_add, List.getElem?_append_left hj]) (inls_rel fun j hj => by rw [List.getElem?_append_right (by omega)]; congr 1; omega) (inrs_rel fun j hj => by rw [Nat.zero_add]) h
  exact ⟨l, h1, arrange_of h2⟩
section
variable {S : Sx} {E : En} {X : Cx}
theorem run_E (ok : XOk S E X) {x : Str} {fi : FI} {f : Addr} (hx : S.ft.lookup x = some fi) (hm : X.mg x = some (.ref f)) {pins : List (Addr × Obj)} {σ : L2.St} {H : Hp} {s : Shared} {Q : VK} {ρ : Rho} {M : Mem} {ks : List Str} {us ws : List Value} {vs zs : List V} {as bs l : List D}
    (I : Inv X pins σ H s) (rep : Rep (gx X) ρ M H) (r1 : Vals vs us) (r2 : Vals zs ws) (q1 : RDs (gx X) ρ H as vs) (q2 : RDs (gx X) ρ H bs zs) (hk : ks.length = ws.length) (hb : bindOk fi.ps ks us.length fi.dfl.length = true)
    (hl : bindP fi.ps ks as bs fi.dfl = some l) (h : Post (gx X) ρ H (E.call (.fn x) l M) (QV (gx X) Q)) : wpAny (model X.prog X.w) X.A (PySem.call (.ref f) us (ks.zip ws)) (EP X pins σ Q) X.xe s := by
  refine wpAny_call (codeAny_mono (ok.cl x fi f hx hm X.stack s H ρ M ks us ws vs zs as bs l Q (fun _ _ _ => False) I.env0 rep r1 r2 q1 q2 hk hb hl h) fun r s' hq => ?_)
  cases r with
  | error e => exact False.elim hq
  | ok fl =>
    cases fl with
    | ret u => exact I.after hq
    | next => exact False.elim hq
    | brk => exact False.elim hq
    | cont => exact False.elim hq
end
section
variable {S : Sx} {E : En} {X : Cx} {pos : Pos} {es : List Expr} {kws : List Keyword} {fl fk : St' → Mem → Res (List D)}
theorem PK.mono {e : List Keyword} {t t' : TA} (h : PK X e t) (k : ∀ σ H Q, t' σ H Q → t σ H Q) : PK X e t' := ⟨fun pos pins s σ H Q I q => h.run pos pins s σ H Q I (k σ H Q q)⟩
theorem den_knil : PK X [] (tA (gx X) fun _ M => .ok [] M) := by
  refine PK.mono pk_nil fun σ H Q h => ?_
  obtain ⟨ρ, M, ds, rep, rs, h⟩ := h
  exact h.here rep _ .nil
theorem den_kcons {a : Expr} {nm : Option Str} {kp : Pos} {fa : St' → Mem → Res D} (ha : PE X a (tE (gx X) fa)) (hl : PK X kws (tA (gx X) fl)) : PK X (⟨nm, a, kp⟩ :: kws) (tA (gx X) fun σ M => (fa σ M).bind fun x M => (fl σ M).bind fun xs M => .ok (x :: xs) M) := by
  refine PK.mono (pk_cons ha hl) fun σ H Q h => ?_
  obtain ⟨ρ, M, ds, rep, rs, h⟩ := h
  refine ⟨ρ, M, ds, rep, rs, h.bind.mono fun x M1 ρ1 H1 e1 r1 h => ?_⟩
  intro v rv
  refine ⟨ρ1, M1, ds, r1, rs.ext e1, h.bind.mono fun y M2 ρ2 H2 e2 r2 h => ?_⟩
  intro u ru
  exact h.here r2 _ (.cons (rv.ext e2) ru)
theorem kw_names : ∀ {kws : List Keyword}, (backToKw pos (keywordEach kws X.env)).filterMap (·.1) = kwNames kws
  | [] => rfl
  | ⟨nm, v, kp⟩ :: r => by
    have := kw_names (kws := r)
    show ((nm, _) :: backToKw pos (keywordEach r X.env)).filterMap (·.1) = _
    cases nm with
    | none => exact this
    | some n => exact congrArg (n :: ·) this
theorem kw_all : ∀ {kws : List Keyword}, kwAll kws = true → (backToKw pos (keywordEach kws X.env)).all (·.1.isSome) = true ∧ (backToKw pos (keywordEach kws X.env)).any (·.1.isNone) = false
  | [], _ => ⟨rfl, rfl⟩
  | ⟨nm, v, kp⟩ :: r, h => by
    unfold kwAll at h
    simp only [List.all_cons, Bool.and_eq_true] at h
    obtain ⟨h1, h2⟩ := kw_all (kws := r) h.2
    cases nm with
    | none => simp at h
    | some n =>
      refine ⟨?_, ?_⟩
      · show ((some n).isSome && (backToKw pos (keywordEach r X.env)).all (·.1.isSome)) = true
        rw [h1]; rfl
      · show ((some n).isNone || (backToKw pos (keywordEach r X.env)).any (·.1.isNone)) = false
        rw [h2]; rfl
theorem kw_len : ∀ {kws : List Keyword}, kwAll kws = true → (kwNames kws).length = kws.length
  | [], _ => rfl
  | ⟨nm, v, kp⟩ :: r, h => by
    unfold kwAll at h
    simp only [List.all_cons, Bool.and_eq_true] at h
    cases nm with
    | none => simp at h
    | some n => 
      have := kw_len (kws := r) h.2
      exact congrArg Nat.succ this
/-- f(e, .., k=v, ..), f a def of the module -/
theorem den_call (ok : XOk S E X) {x : Str} {fi : FI} {p : Pos} {ord : List (Nat ⊕ Nat)} (hx : S.ft.lookup x = some fi) (hg : Gl X x) (hl : PA X es (tA (gx X) fl)) (hk : PK X kws (tA (gx X) fk))
    (l0 : es = [] → ∀ ds M, fl ds M = .ok [] M) (ll : ∀ ds M d M', fl ds M = .ok d M' → d.length = es.length) (lk : ∀ ds M d M', fk ds M = .ok d M' → d.length = kws.length) (hs : es.all notStar = true) (hn : kwAll kws = true)
    (ho : bindP fi.ps (kwNames kws) (inls 0 es.length) (inls es.length kws.length) (inrs 0 fi.dfl.length) = some ord) (hb : bindOk fi.ps (kwNames kws) es.length fi.dfl.length = true) (hdb : (x == ("__debug__" : Str)) = false) :
    PE X (.Call (.Name x p) es kws pos) (tE (gx X) fun σ M => (fl σ M).bind fun ds M => (fk σ M).bind fun ks M => match arrange (ds ++ ks) (E.dfl x) ord with
      | some as => E.call (.fn x) as M
      | none => .bad) := by
  obtain ⟨f, hm, hkp, hd, hnd, hdl⟩ := ok.ft x fi hx
  refine ⟨fun pins s σ H Q I h => ?_⟩
  obtain ⟨ρ, M, ds, rep, rs, h⟩ := h
  dsimp only at h
  refine wpAny_Call_Name_kw (ld_glob I hg hm ?_ hdb)
  obtain ⟨n1, n2⟩ := kw_all (pos := pos) (X := X) hn
  -- behind the keywords
  have fin : ∀ {s2 : Shared} {H2 : Hp} {us ws : List Value} {vs zs : List V} {as bs : List D} {ρ2 : Rho} {M2 : Mem}, Inv X pins σ H2 s2 → Vals vs us → Vals zs ws → RDs (gx X) ρ2 H2 as vs → RDs (gx X) ρ2 H2 bs zs → Rep (gx X) ρ2 M2 H2 →
      as.length = es.length → bs.length = kws.length → Post (gx X) ρ2 H2 (match arrange (as ++ bs) (E.dfl x) ord with
      | some as => E.call (.fn x) as M2
      | none => .bad) (QV (gx X) Q) → wpAny (model X.prog X.w) X.A (PySem.call (.ref f) us ((kwNames kws).zip ws)) (EP X pins σ Q) X.xe s2 := by
    intro s2 H2 us ws vs zs as bs ρ2 M2 I2 r1 r2 q1 q2 rp l1 l2 hp
    rw [← l1, ← l2] at ho
    obtain ⟨l, b1, b2⟩ := arrange_bind ho
    rw [hd, b2] at hp
    exact run_E ok hx hm I2 rp r1 r2 q1 q2 (by rw [kw_len hn, ← l2, q2.length, r2.length]) (by rw [← r1.length, ← q1.length, l1]; exact hb) b1 hp
  -- the keywords
  have kw : ∀ {s1 : Shared} {H1 : Hp} {us : List Value} {vs : List V} {as : List D} {ρ1 : Rho} {M1 : Mem}, Inv X pins σ H1 s1 → Vals vs us → RDs (gx X) ρ1 H1 as vs → Rep (gx X) ρ1 M1 H1 → RS (gx X) ρ1 H1 ds σ → as.length = es.length →
      Post (gx X) ρ1 H1 ((fk ds M1).bind fun ks M => match arrange (as ++ ks) (E.dfl x) ord with
      | some as => E.call (.fn x) as M
      | none => .bad) (QV (gx X) Q) → wpAny (model X.prog X.w) X.A (evalAll ((backToKw pos (keywordEach kws X.env)).map (·.2))) (fun ks s₂ => X.K.In s₂.heap ∧ wpAny (model X.prog X.w) X.A (PySem.call (.ref f) us (((backToKw pos (keywordEach kws X.env)).filterMap (·.1)).zip ks)) (EP X pins σ Q) X.xe s₂) X.xe s1 := by
    intro s1 H1 us vs as ρ1 M1 I1 r1 q1 rp rs1 l1 hp
    have hp2 : Post (gx X) ρ1 H1 (fk ds M1) (fun ks M2 ρ2 H2 => ks.length = kws.length ∧ Ext ρ1 H1 ρ2 H2 ∧ Post (gx X) ρ2 H2 (match arrange (as ++ ks) (E.dfl x) ord with
      | some as => E.call (.fn x) as M2
      | none => .bad) (QV (gx X) Q) ∧ Rep (gx X) ρ2 M2 H2) := by
      have hp1 := hp.bind
      revert hp1
      cases e : fk ds M1 with
      | ok a M2 => exact fun hp1 ρ2 H2 e2 r2 => ⟨lk _ _ _ _ e, e2, hp1 ρ2 H2 e2 r2, r2⟩
      | exc _ _ => exact fun hp1 => hp1
      | bad => exact fun hp1 => hp1
    refine thn (hk.run pos pins s1 σ H1 (fun zs H2 => ∃ ρ2 M2 bs, RDs (gx X) ρ2 H2 bs zs ∧ bs.length = kws.length ∧ Ext ρ1 H1 ρ2 H2 ∧ Post (gx X) ρ2 H2 (match arrange (as ++ bs) (E.dfl x) ord with
      | some as => E.call (.fn x) as M2
      | none => .bad) (QV (gx X) Q) ∧ Rep (gx X) ρ2 M2 H2) I1 ⟨ρ1, M1, ds, rp, rs1, hp2.mono fun bs M2 ρ2 H2 _ _ h vs rv => ⟨ρ2, M2, bs, rv, h⟩⟩) fun ws s2 ⟨zs, H2, I2, r2, ρ2, M2, bs, q2, l2, e2, hp, rp2⟩ => ⟨I2.kIn, ?_⟩
    rw [kw_names]
    exact fin I2 r1 r2 (q1.ext e2) q2 rp2 l1 l2 hp
  cases es with
  | nil =>
    refine PySem.W.callWith_KW0 (h₀ := X.base) I.ok.mod.kin hkp n1 ?_ (by show (false || (backToKw pos (keywordEach kws X.env)).any (·.1.isNone)) = false; rw [n2]; rfl)
    rw [l0 rfl] at h
    exact kw I .nil .nil rep rs rfl h
  | cons a r =>
    refine PySem.W.callWith_KW (h₀ := X.base) I.ok.mod.kin hkp n1 ?_ (by rw [back_plain hs, n2]; rfl) (star_of (by simp only [List.all_cons, Bool.and_eq_true] at hs; exact hs.1))
    have hp2 : Post (gx X) ρ H (fl ds M) (fun as M1 ρ1 H1 => as.length = (a :: r).length ∧ Ext ρ H ρ1 H1 ∧ Post (gx X) ρ1 H1 ((fk ds M1).bind fun ks M => match arrange (as ++ ks) (E.dfl x) ord with
      | some as => E.call (.fn x) as M
      | none => .bad) (QV (gx X) Q) ∧ Rep (gx X) ρ1 M1 H1) := by
      have hp1 := h.bind
      revert hp1
      cases e : fl ds M with
      | ok a M2 => exact fun hp1 ρ2 H2 e2 r2 => ⟨ll _ _ _ _ e, e2, hp1 ρ2 H2 e2 r2, r2⟩
      | exc _ _ => exact fun hp1 => hp1
      | bad => exact fun hp1 => hp1
    refine thn (hl.run pos pins s σ H (fun vs H1 => ∃ ρ1 M1 as, RDs (gx X) ρ1 H1 as vs ∧ as.length = (a :: r).length ∧ Ext ρ H ρ1 H1 ∧ Post (gx X) ρ1 H1 ((fk ds M1).bind fun ks M => match arrange (as ++ ks) (E.dfl x) ord with
      | some as => E.call (.fn x) as M
      | none => .bad) (QV (gx X) Q) ∧ Rep (gx X) ρ1 M1 H1) I ⟨ρ, M, ds, rep, rs, hp2.mono fun as M1 ρ1 H1 _ _ h vs rv => ⟨ρ1, M1, as, rv, h⟩⟩) fun us s1 ⟨vs, H1, I1, r1, ρ1, M1, as, q1, l1, e1, hp, rp⟩ => ?_
    exact kw I1 r1 q1 rp (rs.ext e1) l1 hp
end
end Ev

set_option Elab.async false
set_option linter.all false
set_option maxRecDepth 100000
set_option maxHeartbeats 1000000
namespace Ev
open PySem PySem.Spec PyProof.Rows L2
section
variable {α : Type}
theorem bindF_same : ∀ {l s : List (Str × α)}, (∀ p ∈ l, (s.lookup p.1).isSome = true) → bindF s l = s
  | [], s, _ => rfl
  | p :: l, s, h => by
    have h0 := h p List.mem_cons_self
    unfold bindF
    cases e : s.lookup p.1 with
    | none => rw [e] at h0; cases h0
    | some x => simp only [Option.isNone_some, Bool.false_eq_true, if_false]; exact bindF_same fun q hq => h q (List.mem_cons_of_mem _ hq)
theorem look_cons_ne {p : Str} {a : α} {z : List (Str × α)} : ∀ {r : List Str}, p ∉ r → look ((p, a) :: z) r = look z r
  | [], _ => rfl
  | q :: r, h => by
    unfold look
    have h1 : q ≠ p := fun e => h (e ▸ List.mem_cons_self)
    have e1 : ((p, a) :: z).lookup q = z.lookup q := by
      rw [List.lookup_cons]
      cases e : q == p with
      | true => exact absurd (beq_iff_eq.mp e) h1
      | false => rfl
    rw [e1, look_cons_ne fun q' => h (List.mem_cons_of_mem _ q')]
theorem look_full : ∀ {ps : List Str} {as : List α}, ps.Nodup → as.length = ps.length → look (ps.zip as) ps = some as
  | [], [], _, _ => rfl
  | [], _ :: _, _, h => by simp at h
  | _ :: _, [], _, h => by simp at h
  | p :: ps, a :: as, nd, h => by
    have n2 := List.nodup_cons.mp nd
    rw [List.zip_cons_cons]
    unfold look
    have e1 : ((p, a) :: ps.zip as).lookup p = some a := by rw [List.lookup_cons]; simp
    rw [e1, look_cons_ne n2.1, look_full n2.2 (by simpa using h)]
theorem lookup_some_of_look {s : List (Str × α)} : ∀ {ps : List Str} {l : List α}, look s ps = some l → ∀ p ∈ ps, (s.lookup p).isSome = true
  | [], _, _, p, h => by cases h
  | q :: ps, l, e, p, h => by
    unfold look at e
    cases h1 : s.lookup q with
    | none => rw [h1] at e; cases e
    | some x =>
      cases h2 : look s ps with
      | none => rw [h1, h2] at e; cases e
      | some t =>
        rcases List.mem_cons.mp h with rfl | h
        · rw [h1]; rfl
        · exact lookup_some_of_look h2 p h
theorem bindP_full {ps : List Str} {as ds : List α} (nd : ps.Nodup) (h : as.length = ps.length) : bindP ps [] as [] ds = some as := by
  have e := look_full (α := α) nd h
  unfold bindP bindS
  rw [List.zip_nil_left, List.append_nil, bindF_same fun p hp => ?_]
  · exact e
  · exact lookup_some_of_look e p.1 (List.mem_of_mem_drop (List.of_mem_zip hp).1)
end
theorem bindOk_full {ps : List Str} {nd : Nat} (hd : ps.Nodup) (h : nd ≤ ps.length) : bindOk ps [] ps.length nd = true := by
  unfold bindOk
  simp only [Bool.and_eq_true, decide_eq_true_eq, Nat.le_refl, kwOk, true_and, and_true, h, List.append_nil, List.take_length, List.all_eq_true]
  intro p hp
  have e := look_full (α := Unit) (as := ps.map fun _ => ()) hd (by simp)
  have e2 : ps.zip (ps.map fun _ => ()) = unitsOf ps := by
    unfold unitsOf
    clear e hd hp h
    induction ps with
    | nil => rfl
    | cons a l ih => simp [ih]
  rw [e2] at e
  exact lookup_some_of_look e p (List.mem_of_mem_take hp)
section
variable {S : Sx} {E : En} {X : Cx} {pos : Pos} {es : List Expr} {fl fk : St' → Mem → Res (List D)} {fa fb : St' → Mem → Res D} {a b : Expr}
/-- v(e, ..), v a local name that holds a def of the module -/
theorem den_cal (ok : XOk S E X) {x : Str} {p : Pos} {i : Nat} {e : Expr} (hN : X.N[i]? = some x) (hv : Vis X.env.scope x) (hl : PA X (e :: es) (tA (gx X) fl)) (hs : (e :: es).all notStar = true)
    (hdb : (x == ("__debug__" : Str)) = false) (hcd : (x == ("__classdict__" : Str)) = false) :
    PE X (.Call (.Name x p) (e :: es) [] pos) (tE (gx X) fun σ M => match σ[i]? with
      | some (some f) => (fl σ M).bind fun ds M => E.call f ds M
      | _ => .bad) := by
  refine ⟨fun pins s σ H Q I h => ?_⟩
  obtain ⟨ρ, M, ds, rep, rs, h⟩ := h
  dsimp only at h
  split at h
  · rename_i d hd
    obtain ⟨v, hv', rv⟩ := rs.get hd
    have h0 : ∃ y f, d = .fn y ∧ v = .ref f ∧ X.mg y = some (.ref f) ∧ PySem.W.keepIn X.K (.ref f) = true := by
      cases rv with
      | fn h1 h2 => exact ⟨_, _, rfl, rfl, h1, h2⟩
      | _ =>
        exfalso
        revert h
        cases fl ds M with
        | ok a M1 => simp only [Res.bind_ok]; rw [ok.isfn _ _ _ (by intro y; exact fun e => nomatch e)]; exact fun h => h
        | exc _ _ => exact fun h => h
        | bad => exact fun h => h
    obtain ⟨y, f, rfl, rfl, hm, hkp⟩ := h0
    have hst : starEach (e :: es) X.env = (false, eval e X.env) :: starEach es X.env := star_of (by simp only [List.all_cons, Bool.and_eq_true] at hs; exact hs.1)
    have hpl : (backTo pos (starEach es X.env)).any (·.1) = false := back_plain (by simp only [List.all_cons, Bool.and_eq_true] at hs; exact hs.2)
    refine wpAny_Call_Name_kw (thn ((pe_var (pos := p) hN hv hdb hcd).run pins s σ H (fun v H1 => v = .ref f ∧ H1 = H) I ⟨.ref f, hv', rfl, rfl⟩) fun u s1 ⟨v, H1, I1, r1, q1⟩ => ?_)
    obtain ⟨rfl, rfl⟩ := q1
    cases r1
    refine PySem.W.callWith_K (h₀ := X.base) I.ok.mod.kin hkp (thn (hl.run pos pins s1 σ _ (fun vs H1 => ∃ ρ1 M1 as, Rep (gx X) ρ1 M1 H1 ∧ RDs (gx X) ρ1 H1 as vs ∧ Post (gx X) ρ1 H1 (E.call (.fn y) as M1) (QV (gx X) Q)) I1 ⟨ρ, M, ds, rep, rs, h.bind.mono fun as M1 ρ1 H1 e1 r1 h vs rv => ⟨ρ1, M1, as, r1, rv, h⟩⟩) fun us s2 ⟨vs, H2, I2, r, q⟩ => ⟨I2.kIn, ?_⟩) hst hpl
    obtain ⟨ρ1, M1, as, rp, rv, hp⟩ := q
    cases hf : S.ft.lookup y with
    | none => rw [ok.no y as M1 hf] at hp; exact hp.elim
    | some fi =>
      by_cases hlen : as.length = fi.ps.length
      · obtain ⟨f', hm', _, _, hnd, hdl⟩ := ok.ft y fi hf
        exact run_E (ks := []) (ws := []) (zs := []) (bs := []) ok hf hm I2 rp r .nil rv .nil rfl (by rw [List.nil_append, ← r.length, ← rv.length, hlen]; exact bindOk_full hnd hdl) (bindP_full hnd hlen) hp
      · rw [ok.len y fi as M1 hf hlen] at hp; exact hp.elim
  · exact h.elim
theorem metT_attrs (m : Met) : PlainAttrs (metT m) := by
  cases m with
  | append => exact PySem.F.plainAttrs_list
  | insert => exact PySem.F.plainAttrs_list
  | count => exact PySem.F.plainAttrs_list
  | get => exact PySem.F.plainAttrs_dict
def metN : Met → Str
  | .append => "append"
  | .insert => "insert"
  | .count => "count"
  | .get => "get"
theorem metT_slot (m : Met) : Slot (metT m) (metN m) (metId m) := by
  cases m with
  | append => exact PySem.F.slot_list_append
  | insert => exact PySem.F.slot_list_insert
  | count => exact PySem.F.slot_list_count
  | get => exact PySem.F.slot_dict_get
theorem metT_type (m : Met) : typeOf (.builtin (metId m)) = pure (.type "method_descriptor") := by
  cases m with
  | append => exact PySem.F.type_list_append
  | insert => exact PySem.F.type_list_insert
  | count => exact PySem.F.type_list_count
  | get => exact PySem.F.type_dict_get
/-- o.m(e, ..), m a method of a built-in type; the arguments leave the receiver what it is -/
theorem den_met (hu : X.A.units + 64 < cLine) (m : Met) {apos : Pos} {e : Expr} (ha : PE X a (tE (gx X) fa)) (hl : PA X (e :: es) (tA (gx X) fl)) (hb : baseOk a = true) (hs : (e :: es).all notStar = true) (h30 : es.length < 28) (hline : (apos.endLine == pos.line) = true) :
    PE X (.Call (.Attribute a (metN m) apos) (e :: es) [] pos) (tE (gx X) fun σ M => (fa σ M).bind fun x M => if recD m M x then (fl σ M).bind fun ds M => metD m x ds M else .bad) := by
  have hst : starEach (e :: es) X.env = (false, eval e X.env) :: starEach es X.env := star_of (by simp only [List.all_cons, Bool.and_eq_true] at hs; exact hs.1)
  have hpl : (backTo pos (starEach es X.env)).any (·.1) = false := back_plain (by simp only [List.all_cons, Bool.and_eq_true] at hs; exact hs.2)
  have hfew : ((backTo pos (starEach (e :: es) X.env)).all (fun x => !x.1) && (backToKw pos (keywordEach [] X.env)).all (fun x => x.1.isSome)
      && decide ((e :: es).length + ([] : List Keyword).length + (if ([] : List Keyword).isEmpty then 0 else 1) < 30)) = true := by
    rw [star_all hs]
    simp [backTo, backToKw, keywordEach]
    omega
  refine ⟨fun pins s σ H Q I h => ?_⟩
  obtain ⟨ρ, M, ds, rep, rs, h⟩ := h
  dsimp only at h
  refine wpAny_Call_method_late (base_of hb) hfew hline rfl (thn (ha.run pins s σ H (fun v H1 => ∃ ρ1 M1 x, Rep (gx X) ρ1 M1 H1 ∧ RD (gx X) ρ1 H1 x v ∧ RS (gx X) ρ1 H1 ds σ ∧ Post (gx X) ρ1 H1 (if recD m M1 x then (fl ds M1).bind fun ds M => metD m x ds M else .bad) (QV (gx X) Q)) I ⟨ρ, M, ds, rep, rs, h.bind.mono fun x M1 ρ1 H1 e1 r1 h v rv => ⟨ρ1, M1, x, r1, rv, rs.ext e1, h⟩⟩) fun v s1 ⟨x, H1, I1, r1, q1⟩ => ?_)
  obtain ⟨ρ1, M1, d, rp1, rd, rs1, hp⟩ := q1
  split at hp
  · rename_i hr
    obtain ⟨h1, h2⟩ := rec_is I1 rp1 rd r1 hr
    refine ⟨metT m, metId m, metT_attrs m, metT_slot m, metT_type m, h1, h2, ?_⟩
    have hA := hl.run pos pins s1 σ H1 (fun xs H2 => rMet (gx X) (metD m) x xs H2 Q) I1 ⟨ρ1, M1, ds, rp1, rs1, hp.bind.mono fun as M2 ρ2 H2 e2 r2 h vs rv => ⟨ρ2, M2, d, as, r2, rd.ext e2, rv, h⟩⟩
    rw [hst] at hA ⊢
    refine Calls.callWith_builtin (by show (false || (backTo pos (starEach es X.env)).any (·.1)) = false; rw [hpl] <;> rfl) (Calls.evalArgs_plain ?_)
    exact thn hA fun us s2 ⟨vs, H2, I2, r2, q2⟩ => mt_D hu m pins s2 σ H2 x vs v us Q I2 r1 r2 q2
  · exact hp.elim
/-! ### targets -/
theorem dg_var {i : Nat} {x : Str} (hN : X.N.Nodup) (hi : X.N[i]? = some x) (hx : Loc X.env.scope x) (hf : X.fn x = true ∨ X.env.scope.names.lookup x = some .local) : PG X (.Name x pos) (gT (gx X) [i] fun d σ M => .ok (σ.set i (some d)) M) := by
  refine PG.mono (pg_name hN hi hx hf) fun v σ H Q h => ?_
  obtain ⟨ρ, M, ds, d, rep, rs, rd, h⟩ := h
  refine h.here rep _ (rs.set (d := some d) (v := some v) rd i) ⟨by simp, fun j hj => ?_⟩
  rw [List.getElem?_set_ne (by simp at hj; omega)]
theorem dg_nil : PGs X [] (gTs (gx X) [] fun l σ M => match l with
    | [] => .ok σ M
    | _ => .bad) := by
  refine ⟨fun pins s σ H vs us Q I r h => pgs_nil.run pins s σ H vs us Q I r ?_⟩
  obtain ⟨ρ, M, ds, l, rep, rs, rd, h⟩ := h
  cases rd with
  | nil => exact ⟨rfl, h.here rep _ rs Off.refl⟩
  | cons _ _ => exact h.elim
theorem dg_cons {t : Expr} {ts : List Expr} {s1 s2 : List Nat} {ft : D → St' → Mem → Res St'} {fts : List D → St' → Mem → Res St'} (h1 : PG X t (gT (gx X) s1 ft)) (h2 : PGs X ts (gTs (gx X) s2 fts))
    (he : (assignEach (t :: ts) X.env).map (·.2) = assign t X.env :: (assignEach ts X.env).map (·.2)) : PGs X (t :: ts) (gTs (gx X) (s1 ++ s2) fun l σ M => match l with
    | d :: l => (ft d σ M).bind fun σ M => fts l σ M
    | _ => .bad) := by
  refine ⟨fun pins s σ H vs us Q I r h => ?_⟩
  obtain ⟨ρ, M, ds, l, rep, rs, rd, h⟩ := h
  cases rd with
  | nil => exact h.elim
  | @cons d v l vs rd rds =>
    cases r with
    | @cons _ u _ us rv rvs =>
      rw [he]
      dsimp only at h
      refine assignInOrder_cons (thn (h1.run pins s σ H v u (fun σ1 H1 => ∃ ρ1 M1 ds1, Rep (gx X) ρ1 M1 H1 ∧ RS (gx X) ρ1 H1 ds1 σ1 ∧ RDs (gx X) ρ1 H1 l vs ∧ Off s1 σ σ1 ∧ Post (gx X) ρ1 H1 (fts l ds1 M1) fun ds' _ ρ' H' => ∀ σ', RS (gx X) ρ' H' ds' σ' → Off (s1 ++ s2) σ σ' → Q σ' H') I rv
        ⟨ρ, M, ds, d, rep, rs, rd, h.bind.mono fun ds1 M1 ρ1 H1 e1 r1 h σ1 rs1 o1 => ⟨ρ1, M1, ds1, r1, rs1, rds.ext e1, o1, h⟩⟩) fun _ s' ⟨σ1, H1, I1, ρ1, M1, ds1, r1, rs1, rds1, o1, hp⟩ => ?_)
      exact h2.run pins s' σ1 H1 vs us Q I1 rvs ⟨ρ1, M1, ds1, l, r1, rs1, rds1, hp.mono fun ds' M' ρ' H' _ _ h σ' rs' o' => h σ' rs' (o1.trans o' (fun i hi => List.mem_append_left _ hi) (fun i hi => List.mem_append_right _ hi))⟩
theorem assignEach_len : ∀ {ts : List Expr}, (assignEach ts X.env).length = ts.length
  | [] => rfl
  | t :: ts => by
    have := assignEach_len (ts := ts)
    cases t <;> simpa [assignEach] using this
theorem assignEach_cons {t : Expr} {ts : List Expr} (h : notStar t = true) : (assignEach (t :: ts) X.env).map (·.2) = assign t X.env :: (assignEach ts X.env).map (·.2) := by
  cases t <;> first | rfl | (exact absurd h Bool.false_ne_true)
theorem assignEach_star : ∀ {ts : List Expr}, ts.all notStar = true → (assignEach ts X.env).findIdx? (·.1) = none
  | [], _ => rfl
  | t :: ts, h => by
    simp only [List.all_cons, Bool.and_eq_true] at h
    have := assignEach_star (ts := ts) h.2
    cases t <;> first | (exact absurd h.1 Bool.false_ne_true) | (simp only [assignEach, List.findIdx?_cons, this] <;> rfl)
theorem dg_tup {ts : List Expr} {k : Nat} {sl : List Nat} {n : Nat} {fts : List D → St' → Mem → Res St'} (hc : X.calm = true) (h : PGs X ts (gTs (gx X) sl fts)) (hn : n = ts.length) (hs : ts.all notStar = true) : PG X (.Tuple ts k pos) (gT (gx X) sl fun d σ M => match d with
    | .tup ds => if ds.length = n then fts ds σ M else .bad
    | .wtp ds => if ds.length = n then fts ds σ M else .bad
    | _ => .bad) := by
  refine ⟨fun pins s σ H v u Q I r hw => ?_⟩
  obtain ⟨ρ, M, ds, d, rep, rs, rd, hw⟩ := hw
  have go : ∀ {a : Addr} {vs : List V} {l : List D}, SqT X.K H a vs → RDs (gx X) ρ H l vs → RelV (.ref a) u → Post (gx X) ρ H (if l.length = n then fts l ds M else .bad) (fun ds' _ ρ' H' => ∀ σ', RS (gx X) ρ' H' ds' σ' → Off sl σ σ' → Q σ' H') → wpAny (model X.prog X.w) X.A (assign (.Tuple ts k pos) X.env u) (fun _ s' => ∃ σ' H', Inv X pins σ' H' s' ∧ Q σ' H') X.xe s := fun {a vs l} h1 q r hw => by
    split at hw
    · rename_i hl
      cases r
      obtain ⟨its, rv, ht, hz⟩ := I.tuple h1
      refine assign_Tuple_tuple (I.ok.hd hc) ht (by rw [assignEach_len, ← hn, ← hl, q.length, rv.length]; simp) (assignEach_star hs) fun h' hx => ?_
      have I1 : Inv X pins σ H { s with heap := h' } := I.kept (t' := s.toks) fun b o e => hx b o (Nat.ne_of_lt (Heap.lt_size e)) e
      exact h.run pins _ σ H vs _ Q I1 (by simpa using rv) ⟨ρ, M, ds, l, rep, rs, q, hw⟩
    · exact hw.elim
  cases rd with
  | tup h1 q => exact go h1.seq q r hw
  | wtp n1 h1 q => exact go (.inl (.inl h1)) q r hw
  | _ => exact hw.elim
theorem dg_sub (hu : X.A.units + 64 < cLine) {o i : Expr} {fo fi : St' → Mem → Res D} (ho : PE X o (tE (gx X) fo)) (hi : PE X i (tE (gx X) fi)) (hp : plainI i = true) : PG X (.Subscript o i pos) (gT (gx X) [] fun d σ M => (fo σ M).bind fun o M => (fi σ M).bind fun i M => match setD o i d M with
    | some M => .ok σ M
    | none => .bad) := by
  refine PG.mono (pg_sub ho hi (set_D hu) (by intro v; cases i <;> first | rfl | (exact absurd hp Bool.false_ne_true))) fun v σ H Q h => ?_
  obtain ⟨ρ, M, ds, d, rep, rs, rd, h⟩ := h
  refine ⟨ρ, M, ds, rep, rs, h.bind.mono fun x M1 ρ1 H1 e1 r1 h => ?_⟩
  intro vo rvo
  refine ⟨ρ1, M1, ds, r1, rs.ext e1, h.bind.mono fun y M2 ρ2 H2 e2 r2 h => ?_⟩
  intro vi rvi
  split at h
  · rename_i M' hM
    exact ⟨ρ2, M2, x, y, d, M', r2, rvo.ext e2, rvi, (rd.ext e1).ext e2, hM, fun ρ' H' e' r' => h ρ' H' e' r' σ (((rs.ext e1).ext e2).ext e') Off.refl⟩
  · exact h.elim
end
end Ev

set_option Elab.async false
set_option linter.all false
set_option maxRecDepth 100000
set_option maxHeartbeats 1000000
/-! Ev9b: enumerate over a tuple. -/
namespace Ev
open PySem PySem.Spec PyProof.Rows L2 RZ
set_option maxHeartbeats 1000000 in
theorem meets_enumerate_one {v : Value} {o : Obj} {H : Heap → Prop} (B : Begins v o H) :
    Meets (Builtin.«enumerate.__new__» ⟨[.type "enumerate", v], []⟩) (fun _ R s => H s.heap ∧
      R (.ok (.ret (.ref (s.heap.push o).objs.size))) { s with heap := (s.heap.push o).push { cls := .type "enumerate", data := .fields #[.none, .bool false, .ref s.heap.objs.size, rawInt 0, .none, .none] } }) :=
  .of_wp fun prog w A R s h => by
    obtain ⟨hp, g, d, tk, os⟩ := s; obtain ⟨h1, h⟩ := h
    have hsub := sub_enumerate
    have q1 : ∀ {A' : Around} {E : Value → Shared → Prop} {Q : Value → Shared → Prop}, Q (.ref hp.objs.size) ⟨hp.push o, g, d, tk, os⟩ → wpAny (model prog w) A' (pyIter v) Q E ⟨hp, g, d, tk, os⟩ :=
      fun q => B.iter prog w _ _ ⟨hp, g, d, tk, os⟩ _ h1 q
    wp_walk using q1
    refine wpAny_stack_any fun st => wpAny_pure ?_
    split
    · rename_i c _ _ _ _ _
      cases (c == Value.type "enumerate")
      · wp_walk using q1
        exact ⟨_, rfl, h⟩
      · wp_walk using q1
        exact ⟨_, rfl, h⟩
    · wp_walk using q1
      exact ⟨_, rfl, h⟩
section
variable {prog : Program} {w : World} {A : Around} {E : Value → Shared → Prop} {s : Shared}
theorem call_enumerate_any {v : Value} {o : Obj} {H : Heap → Prop} {Q : Value → Shared → Prop} (B : Begins v o H) (h1 : H s.heap)
    (h : ∀ h', IsEnum h' (s.heap.objs.size + 1) s.heap.objs.size 0 .none → h'.get? s.heap.objs.size = some o → h'.objs.size = s.heap.objs.size + 2 →
      (∀ b o, s.heap.get? b = some o → h'.get? b = some o) → Q (.ref (s.heap.objs.size + 1)) { s with heap := h' }) :
    wpAny (model prog w) A (call (.type "enumerate") [v]) Q E s := by
  refine callType_new F.called_enumerate (by decide) (F.typeCall_enumerate_1 _) (F.newCall_enumerate_1 _) (fun obj => F.args_object_init_2 obj _) F.entry_enumerate_new
    (meets_enumerate_one B) ⟨h1, ?_⟩
  have hz : (s.heap.push o).objs.size = s.heap.objs.size + 1 := Heap.size_push ..
  show _ ∧ _
  rw [hz]
  have he : IsEnum ((s.heap.push o).push { cls := .type "enumerate", data := .fields #[.none, .bool false, .ref s.heap.objs.size, rawInt 0, .none, .none] }) (s.heap.objs.size + 1) s.heap.objs.size 0 .none := by
    have := Heap.get?_push_size (s.heap.push o) (o := { cls := .type "enumerate", data := .fields #[.none, .bool false, .ref s.heap.objs.size, rawInt 0, .none, .none] }) rfl
    rw [hz] at this; exact this
  refine ⟨⟨_, he, rfl⟩, h _ he (Heap.get?_push_of_some _ (Heap.get?_push_size _ B.free)) (by rw [Heap.size_push, hz]) fun b o x => Heap.get?_push_of_some _ (Heap.get?_push_of_some _ x)⟩
end
section
variable {prog : Program} {w : World} {A : Around} {E : Value → Shared → Prop} {s : Shared}
theorem pyNext_enumT_end {e it t : Addr} {items : Array Value} {i : Nat} {c : Int} {old : Value} {Q : Option Value → Shared → Prop} (hh : A.in1.handled = none) (he : IsEnum s.heap e it c old) (hit : s.heap.IsTupleIter it t i) (ht : s.heap.IsTuple t items) (hx : items[i]? = none)
    (hQ : ∀ h', Heap.ExtBut it s.heap h' → Q none { s with heap := h' }) : wpAny (model prog w) A (pyNext (.ref e)) Q E s := by
  have hT : s.TypeIs (.ref e) "enumerate" := ⟨_, he, rfl⟩
  unfold pyNext
  refine wpAny_bind (wpAny_attempt (wpAny_callSpecial?_slot (name := Str.ofString "__next__") hT F.slot_enumerate_next
    (wpAny_call_entry F.slot_enumerate_next hT F.entry_enumerate_next ?_ (F.args_enumerate_next_1 _))))
  show wpAny _ _ (field (.ref e) 2 >>= _) _ _ _
  refine wpAny_bind (wpAny_field he rfl (x := .ref it) rfl ?_)
  refine wpAny_bind (wpAny_nextOf_tuple_end hh hit ht hx fun h' x he' hx' => ?_)
  obtain ⟨o, ho, hc⟩ := hx'
  refine wpAny_bind (wpAny_isInstance (T := "StopIteration") (b := true) ⟨o, ho, hc⟩ isSubtype_stop ?_)
  exact wpAny_pure (hQ _ he')
end
/-- the tuple at a as it stands at each turn, each item in a new pair -/
def IteT (K : PySem.W.Frag) (a : Addr) : It :=
  ⟨fun i H => ∃ (xs : List V) (x : V), SqT K H a xs ∧ xs[i]? = some x, fun i H v H' => ∃ T x, v = .ref T ∧ H T = none ∧ H' = upd H T (.tup [.int (i : Nat), x]) ∧ ∀ xs, SqT K H a xs → xs[i]? = some x, fun i H => ∃ xs : List V, SqT K H a xs ∧ xs.length ≤ i⟩
theorem turn_enumT {P : Program} {w : World} {K : PySem.W.Frag} {elts : List Expr} {kk : Nat} {tpos : Pos} (a e it : Addr) (hai : a ≠ it) (hae : a ≠ e) :
    Turn P w K (.Tuple elts kk tpos) (IteT K a) [e, it] e (fun i h => (∃ old, IsEnum h e it ((i : Nat) : Int) old) ∧ h.IsTupleIter it a i ∧ e ≠ it) where
  mem := by simp
  obj := fun i h st b hb => by
    obtain ⟨⟨old, he⟩, ⟨o, ho, hc, hd⟩, _⟩ := st
    have e' : b = e ∨ b = it := by simpa using hb
    rcases e' with z | z
    · rw [z]; exact ⟨_, he, fun v q => nomatch q⟩
    · rw [z]; exact ⟨o, ho, fun v q => by rw [hd] at q; cases q⟩
  keep := fun i h h' st k => let ⟨⟨old, he⟩, hi, hne⟩ := st; ⟨⟨old, k e (by simp) _ he⟩, hi.at fun o q => k it (by simp) o q, hne⟩
  item := by
    intro X hP hw hK hc i pins s σ H E I hf st hg
    subst hP hw hK
    obtain ⟨⟨old, he⟩, hit, hne⟩ := st
    obtain ⟨xs, x, hq, hx⟩ := hg
    obtain ⟨its, rv, p, hz⟩ := I.tuple hq
    obtain ⟨u, hu, ru⟩ := rv.get hx
    have hel : e < s.heap.objs.size := Heap.lt_size he
    have hil : it < s.heap.objs.size := by obtain ⟨_, q, _⟩ := hit; exact Heap.lt_size q
    have hlt : i < its.toArray.size := by
      have : its.toArray[i]? = some u := by simpa using hu
      exact (Array.getElem?_eq_some_iff.mp this).1
    refine wpAny_pyNext_enum_itemD (Draws.tuple (show X.A.in1.handled = none from I.ok.hd hc) it a hai its.toArray) he ⟨hit, (show s.heap.IsTuple a its.toArray from p)⟩ hlt hne (by simp [hne, Ne.symm hae]) fun x' h' tk hP ho hst' hT hsz hk => ?_
    obtain rfl : u = x' := by
      have e1 : its.toArray[i]? = some u := by simpa using hu
      rw [e1] at hP; exact Option.some.inj hP
    refine ⟨_, rfl, wpAny_letOwnedTupleGo_enum (s := { s with heap := h', toks := tk + 1 }) ho fun h'' he' sb => ?_⟩
    have hT2 : h''.get? s.heap.objs.size = some { cls := .type "tuple", data := .seq #[.int i tk, u] } := (sb.2 _ (Nat.ne_of_gt hel)).trans hT
    have new : ObjOk X.prog X.w (upd H s.heap.objs.size (.tup [.int (i : Nat), x])) h'' s.heap.objs.size (.tup [.int (i : Nat), x]) :=
      ⟨by show 2 ≤ sizeLine; decide, [.int i tk, u], .cons ⟨_, rfl⟩ (.cons ru .nil), ⟨_, hT2, rfl, _, rfl⟩⟩
    have I1 : Inv X pins σ (upd H s.heap.objs.size (.tup [.int (i : Nat), x])) { s with heap := h'', toks := tk + 1 } :=
      I.turnedNew (ch := [e, it]) (fun b ob hb q => (sb.2 b (fun z => hb (by simp [z]))).trans (hk b ob (fun z => hb (by simp [z])) (fun z => hb (by simp [z])) q)) hf (Nat.le_refl _) new
    refine ⟨.ref s.heap.objs.size, _, I1, rfl, ⟨_, x, rfl, I.hok.fresh (Nat.le_refl _), rfl, fun ys hy => by rw [I.tuple_inj hy hq]; exact hx⟩, ⟨⟨u, ?_⟩, hst'.1.at fun o q => (sb.2 it (Ne.symm hne)).trans q, hne⟩, fun b hb => ?_⟩
    · have e1 : ((i + 1 : Nat) : Int) = (i : Int) + 1 := by omega
      rw [e1]; exact he'
    · have hb' : b < s.heap.objs.size := by
        have e' : b = e ∨ b = it := by simpa using hb
        rcases e' with z | z
        · rw [z]; exact hel
        · rw [z]; exact hil
      rw [upd_ne (Nat.ne_of_lt hb')]
      exact (hf b hb).1
  done := by
    intro X hP hw hK hc i pins s σ H E I hf st hg
    subst hP hw hK
    obtain ⟨⟨old, he⟩, hit, hne⟩ := st
    obtain ⟨xs, hq, hx⟩ := hg
    obtain ⟨its, rv, p, hz⟩ := I.tuple hq
    obtain ⟨f0, f1, f2, f3, f4, f5⟩ := hf it (by simp)
    have hl := rv.length
    exact pyNext_enumT_end (show X.A.in1.handled = none from I.ok.hd hc) he hit (show s.heap.IsTuple a its.toArray from p) (by simp; omega) fun h' eb => ⟨rfl, I.turned (t' := s.toks) (fun b o hb q => eb b o hb q) f0 f1 f3 f4 f5⟩
  self := fun A i s Q E st h => let ⟨⟨_, he⟩, _⟩ := st; wpAny_pyIter_enum he h
def iEnumA (K : PySem.W.Frag) (ta : TA) : TI := fun σ H R => ta σ H fun vs H1 => ∃ a xs, vs = [.ref a] ∧ ((SqL K H1 a xs ∧ R (Ite K a) H1) ∨ (SqT K H1 a xs ∧ R (IteT K a) H1))
theorem pi_enumA {X : Cx} {e : Expr} {ta : TA} {p pos tpos : Pos} {elts : List Expr} {kk : Nat} (hg : Gl X "enumerate") (hm : X.mg "enumerate" = none) (ha : PA X [e] ta) (hs : starEach [e] X.env = [(false, eval e X.env)] := by rfl) :
    PI X (.Tuple elts kk tpos) (.Call (.Name "enumerate" p) [e] [] pos) (iEnumA X.K ta) := by
  refine ⟨fun pins s σ H R I h => ?_⟩
  refine Call_ (ld_blt I hg hm boot_enumerate (PyProof.Rows.callWith_type1 (thn (ha.run pos pins s σ H _ I h) fun us s1 ⟨vs, H1, I1, r1, q1⟩ => ?_) hs rfl))
  obtain ⟨a, xs, ex, q1⟩ := q1
  subst ex
  cases r1 with
  | cons r rr =>
    cases rr
    cases r
    have fresh2 : ∀ b, b ∈ [s1.heap.objs.size + 1, s1.heap.objs.size] → FpOk X pins H1 b := fun b hb => by
      have e' : b = s1.heap.objs.size + 1 ∨ b = s1.heap.objs.size := by simpa using hb
      have hle : s1.heap.objs.size ≤ b := by
        rcases e' with z | z
        · rw [z]; exact Nat.le_add_right _ _
        · rw [z]; exact Nat.le_refl _
      exact I1.fpOk hle (I1.hok.fresh hle)
    rcases q1 with ⟨hq, q⟩ | ⟨hq, q⟩
    · obtain ⟨its, rv, p', hz⟩ := I1.list hq
      refine call_enumerate_list p'.isList fun h' he hit hsz hk => wpAny_pyIter_enum he ?_
      have I2 : Inv X pins σ H1 { s1 with heap := h' } := I1.kept (t' := s1.toks) hk
      exact ⟨s1.heap.objs.size + 1, [s1.heap.objs.size + 1, s1.heap.objs.size], _, _, H1, rfl, I2, turn_enum a (s1.heap.objs.size + 1) s1.heap.objs.size, ⟨⟨.none, he⟩, hit, Nat.succ_ne_self _⟩, fresh2, q⟩
    · obtain ⟨its, rv, p', hz⟩ := I1.tuple hq
      have ht : s1.heap.IsTuple a its.toArray := p'
      obtain ⟨o1, ho1, _⟩ := id p'
      have hlt : a < s1.heap.objs.size := Heap.lt_size ho1
      refine call_enumerate_any (begins_tuple a its.toArray) ht fun h' he hit hsz hk => wpAny_pyIter_enum he ?_
      have I2 : Inv X pins σ H1 { s1 with heap := h' } := I1.kept (t' := s1.toks) hk
      exact ⟨s1.heap.objs.size + 1, [s1.heap.objs.size + 1, s1.heap.objs.size], _, _, H1, rfl, I2, turn_enumT a (s1.heap.objs.size + 1) s1.heap.objs.size (Nat.ne_of_lt hlt) (Nat.ne_of_lt (Nat.lt_succ_of_lt hlt)), ⟨⟨.none, he⟩, ⟨_, hit, rfl, rfl⟩, Nat.succ_ne_self _⟩, fresh2, q⟩
end Ev

set_option Elab.async false
set_option linter.all false
set_option maxRecDepth 100000
set_option maxHeartbeats 1000000
/-! Ev10: walks and comprehensions. -/
namespace Ev
open PySem PySem.Spec PyProof.Rows L2 RZ
theorem wOk_of {w : Option Nat} {xs : List D} {M : Mem} (h : chkW w xs M = true) : wOk w xs M := by
  unfold chkW at h
  exact @of_decide_eq_true _ (Classical.propDecidable _) h
/-- J walks the items xs, from a state on -/
def ItOk (g : Gx) (J : It) (xs : List D) (w : Option Nat) (ρ : Rho) (H : Hp) : Prop := ∀ (i : Nat) (ρ' : Rho) (H' : Hp) (M : Mem), ExtW ρ H ρ' H' → Rep g ρ' M H' → wOk w xs M →
  (i < xs.length → J.go i H' ∧ ∀ x H'', J.yld i H' x H'' → ∃ d, xs[i]? = some d ∧ Rep g ρ' M H'' ∧ Ext ρ' H' ρ' H'' ∧ RD g ρ' H'' d x) ∧ (xs.length ≤ i → J.stop i H')
def iE (g : Gx) (f : St' → Mem → Res (List D × Option Nat)) : TI := fun σ H R => ∃ ρ M ds, Rep g ρ M H ∧ RS g ρ H ds σ ∧ Post g ρ H (f ds M) fun xs _ ρ' H' => ∀ J, ItOk g J xs.1 xs.2 ρ' H' → R J H'
theorem PI.mono {X : Cx} {tg e : Expr} {t t' : TI} (h : PI X tg e t) (k : ∀ σ H Q, t' σ H Q → t σ H Q) : PI X tg e t' := ⟨fun pins s σ H R I q => h.run pins s σ H R I (k σ H R q)⟩
section
variable {g : Gx} {ρ : Rho} {H : Hp}
/-- a list that stands (by the state's own words) -/
theorem itl_ok {a : Addr} {xs : List D} {w : Option Nat} (h : ∀ ρ' H' M, ExtW ρ H ρ' H' → Rep g ρ' M H' → wOk w xs M → ∃ vs, SqL g.K H' a vs ∧ RDs g ρ' H' xs vs) : ItOk g (Itl g.K a) xs w ρ H := fun i ρ' H' M e r k => by
  obtain ⟨vs, h', q⟩ := h ρ' H' M e r k
  refine ⟨fun hi => ?_, fun hi => ⟨vs, h', by rw [← q.length]; exact hi⟩⟩
  obtain ⟨v, hv, rv⟩ := q.get (i := i) (by simp [hi] : xs[i]? = some xs[i])
  refine ⟨⟨vs, v, h', hv⟩, fun x H'' y => ?_⟩
  obtain ⟨rfl, y⟩ := y
  have := y vs h'
  rw [hv] at this; cases this
  exact ⟨_, by simp [hi], r, .refl _ _, rv⟩
theorem itt_ok {a : Addr} {vs : List V} {xs : List D} (h : AtT g ρ H a vs) (q : RDs g ρ H xs vs) : ItOk g (Itt g.K a) xs none ρ H := fun i ρ' H' M e r k => by
  have h' := (h.extW e).seq
  have q := q.extW e
  refine ⟨fun hi => ?_, fun hi => ⟨vs, h', by rw [← q.length]; exact hi⟩⟩
  obtain ⟨v, hv, rv⟩ := q.get (i := i) (by simp [hi] : xs[i]? = some xs[i])
  refine ⟨⟨vs, v, h', hv⟩, fun x H'' y => ?_⟩
  obtain ⟨rfl, y⟩ := y
  have := y vs h'
  rw [hv] at this; cases this
  exact ⟨_, by simp [hi], r, .refl _ _, rv⟩
theorem itr_ok {lo : Int} {n : Nat} : ItOk g (Itr lo n) (rngL lo n) none ρ H := fun i ρ' H' M e r k => by
  have hl : (rngL lo n).length = n := by simp [rngL]
  refine ⟨fun hi => ⟨by rw [hl] at hi; exact hi, fun x H'' y => ?_⟩, fun hi => by rw [hl] at hi; exact hi⟩
  obtain ⟨rfl, rfl⟩ := y
  rw [hl] at hi
  exact ⟨_, by simp [rngL, hi], r, .refl _ _, .int _⟩
theorem zipL_get : ∀ {xs ys : List D} {i : Nat}, (zipL xs ys)[i]? = match xs[i]?, ys[i]? with
    | some a, some b => some (.wtp [a, b])
    | _, _ => none
  | [], _, i => by simp [zipL]
  | _ :: _, [], i => by simp [zipL]
  | a :: r, b :: s, 0 => by simp [zipL]
  | a :: r, b :: s, i + 1 => by simpa [zipL] using zipL_get (xs := r) (ys := s) (i := i)
theorem zipL_len : ∀ {xs ys : List D}, (zipL xs ys).length = min xs.length ys.length
  | [], _ => by simp [zipL]
  | _ :: _, [] => by simp [zipL]
  | _ :: r, _ :: s => by simp [zipL, zipL_len (xs := r) (ys := s)]
theorem itz_ok {a b : Addr} {vs us : List V} {xs ys : List D} (h : a ∉ ρ ∧ H a = some (.lst vs)) (k : b ∉ ρ ∧ H b = some (.lst us)) (q : RDs g ρ H xs vs) (p : RDs g ρ H ys us) : ItOk g (Itz g.K a b) (zipL xs ys) none ρ H := fun i ρ' H' M e r _ => by
  have h' : SqL g.K H' a vs := SqL.of (e.keep _ _ h.2 h.1).1
  have k' : SqL g.K H' b us := SqL.of (e.keep _ _ k.2 k.1).1
  have q := q.extW e
  have p := p.extW e
  refine ⟨fun hi => ?_, fun hi => ⟨vs, us, h', k', by rw [zipL_len] at hi; rw [← q.length, ← p.length]; omega⟩⟩
  rw [zipL_len] at hi
  have i1 : i < xs.length := by omega
  have i2 : i < ys.length := by omega
  obtain ⟨v, hv, rv⟩ := q.get (i := i) (by simp [i1] : xs[i]? = some xs[i])
  obtain ⟨u, hu, ru⟩ := p.get (i := i) (by simp [i2] : ys[i]? = some ys[i])
  refine ⟨⟨vs, us, v, u, h', k', hv, hu⟩, fun x H'' y => ?_⟩
  obtain ⟨T, x1, x2, rfl, hT, rfl, y1, y2⟩ := y
  have e1 := y1 vs h'
  have e2 := y2 us k'
  rw [hv] at e1; rw [hu] at e2; cases e1; cases e2
  refine ⟨.wtp [xs[i], ys[i]], by rw [zipL_get]; simp [i1, i2], r.new hT, Ext.new r hT, .wtp (r.fresh hT) upd_same (.cons (rv.ext (Ext.new r hT)) (.cons (ru.ext (Ext.new r hT)) .nil))⟩
theorem itzT_ok {a b : Addr} {vs us : List V} {xs ys : List D} (h : AtT g ρ H a vs) (k : AtT g ρ H b us) (q : RDs g ρ H xs vs) (p : RDs g ρ H ys us) : ItOk g (ItzT g.K a b) (zipL xs ys) none ρ H := fun i ρ' H' M e r _ => by
  have h' := (h.extW e).seq
  have k' := (k.extW e).seq
  have q := q.extW e
  have p := p.extW e
  refine ⟨fun hi => ?_, fun hi => ⟨vs, us, h', k', by rw [zipL_len] at hi; rw [← q.length, ← p.length]; omega⟩⟩
  rw [zipL_len] at hi
  have i1 : i < xs.length := by omega
  have i2 : i < ys.length := by omega
  obtain ⟨v, hv, rv⟩ := q.get (i := i) (by simp [i1] : xs[i]? = some xs[i])
  obtain ⟨u, hu, ru⟩ := p.get (i := i) (by simp [i2] : ys[i]? = some ys[i])
  refine ⟨⟨vs, us, v, u, h', k', hv, hu⟩, fun x H'' y => ?_⟩
  obtain ⟨T, x1, x2, rfl, hT, rfl, y1, y2⟩ := y
  have e1 := y1 vs h'
  have e2 := y2 us k'
  rw [hv] at e1; rw [hu] at e2; cases e1; cases e2
  refine ⟨.wtp [xs[i], ys[i]], by rw [zipL_get]; simp [i1, i2], r.new hT, Ext.new r hT, .wtp (r.fresh hT) upd_same (.cons (rv.ext (Ext.new r hT)) (.cons (ru.ext (Ext.new r hT)) .nil))⟩
end
section
variable {S : Sx} {E : En} {X : Cx} {pos : Pos} {fa fb : St' → Mem → Res D} {a b tg : Expr}
theorem it_l {pins : List (Addr × Obj)} {σ : L2.St} {H : Hp} {s : Shared} {p : Addr} {vs : List V} {R : It → Hp → Prop} (I : Inv X pins σ H s) (h : SqL X.K H p vs) (q : R (Itl X.K p) H) : wpAny (model X.prog X.w) X.A (pyIter (.ref p)) (PIE X pins σ tg R) X.xe s := by
  obtain ⟨its, _, pl, _⟩ := I.list h
  refine wpAny_pyIter_list pl.isList ⟨s.heap.objs.size, [s.heap.objs.size], _, _, H, rfl, ?_, turn_list p _, ⟨_, Heap.get?_push_size _ rfl, rfl, rfl⟩, ?_, q⟩
  · exact I.kept (t' := s.toks) fun b o e => Heap.get?_push_of_some _ e
  · intro b hb
    rw [List.mem_singleton] at hb
    rw [hb]
    exact I.fpOk (Nat.le_refl _) (I.hok.fresh (Nat.le_refl _))
theorem it_t {pins : List (Addr × Obj)} {σ : L2.St} {H : Hp} {s : Shared} {p : Addr} {vs : List V} {R : It → Hp → Prop} (I : Inv X pins σ H s) (h : SqT X.K H p vs) (q : R (Itt X.K p) H) : wpAny (model X.prog X.w) X.A (pyIter (.ref p)) (PIE X pins σ tg R) X.xe s := by
  obtain ⟨its, _, pl, _⟩ := I.tuple h
  refine wpAny_pyIter_tuple (show s.heap.IsTuple p its.toArray from pl) ⟨s.heap.objs.size, [s.heap.objs.size], _, _, H, rfl, ?_, turn_tuple p _, ⟨_, Heap.get?_push_size _ rfl, rfl, rfl⟩, ?_, q⟩
  · exact I.kept (t' := s.toks) fun b o e => Heap.get?_push_of_some _ e
  · intro b hb
    rw [List.mem_singleton] at hb
    rw [hb]
    exact I.fpOk (Nat.le_refl _) (I.hok.fresh (Nat.le_refl _))
/-- over a list or a tuple -/
theorem di_val (ha : PE X a (tE (gx X) fa)) : PI X tg a (iE (gx X) fun σ M => (fa σ M).bind fun x M => walkV x M) := by
  refine ⟨fun pins s σ H R I h => ?_⟩
  obtain ⟨ρ, M, ds, rep, rs, h⟩ := h
  refine thn (ha.run pins s σ H (fun v H1 => ∃ ρ1 M1 x, Rep (gx X) ρ1 M1 H1 ∧ RD (gx X) ρ1 H1 x v ∧ Post (gx X) ρ1 H1 (walkV x M1) fun xs _ ρ' H' => ∀ J, ItOk (gx X) J xs.1 xs.2 ρ' H' → R J H') I
    ⟨ρ, M, ds, rep, rs, h.bind.mono fun x M1 ρ1 H1 e1 r1 h v rv => ⟨ρ1, M1, x, r1, rv, h⟩⟩) fun u s1 ⟨v, H1, I1, r1, ρ1, M1, x, rp, rd, hp⟩ => ?_
  cases rd with
  | tup h1 q => cases r1; exact it_t I1 h1.seq (hp.here rp _ (itt_ok h1 q))
  | lst n h1 q => cases r1; exact it_l I1 (SqL.of h1) (hp.here rp _ (itl_ok fun ρ' H' M e r k => ⟨_, SqL.of (e.keep _ _ h1 n).1, q.extW e⟩))
  | rol h1 q => cases r1; exact it_l I1 h1.seq (hp.here rp _ (itl_ok fun ρ' H' M e r k => ⟨_, (h1.extW e).seq, q.extW e⟩))
  | @obj n p h1 =>
    cases r1
    obtain ⟨c, hc, ok⟩ := rp.at_ h1
    cases c with
    | lst l =>
      simp only [walkV, hc] at hp
      obtain ⟨vs, h2, q⟩ := ok
      refine it_l I1 (SqL.of h2) (hp.here rp _ (itl_ok fun ρ' H' M e r k => ?_))
      obtain ⟨vs', h3, q3⟩ := r.cell n p _ (pre_get e.pre h1) k
      exact ⟨vs', SqL.of h3, q3⟩
    | dct _ => simp only [walkV, hc] at hp; exact hp.elim
  | _ => exact hp.elim
theorem den_c1 (ha : PE X a (tE (gx X) fa)) (hs : notStar a = true) : PA X [a] (tA (gx X) fun σ M => (fa σ M).bind fun x M => .ok [x] M) := PA.mono (den_cons ha den_nil hs) fun σ H Q h => h
theorem den_c2 (ha : PE X a (tE (gx X) fa)) (hb : PE X b (tE (gx X) fb)) (hs : notStar a = true) (hs2 : notStar b = true) : PA X [a, b] (tA (gx X) fun σ M => (fa σ M).bind fun x M => (fb σ M).bind fun y M => .ok [x, y] M) := by
  refine PA.mono (den_cons ha (den_c1 hb hs2) hs) fun σ H Q h => ?_
  obtain ⟨ρ, M, ds, rep, rs, h⟩ := h
  exact ⟨ρ, M, ds, rep, rs, by simp only [Res.bind_assoc, Res.bind_ok] at h ⊢; exact h⟩
theorem bnd {n : Int} (h : -1000000 ≤ n ∧ n ≤ 1000000) : -(2 ^ 62) ≤ n ∧ n < 2 ^ 62 := ⟨by omega, by omega⟩
theorem di_rng1 {p : Pos} (hg : Gl X "range") (hm : X.mg "range" = none) (ha : PE X a (tE (gx X) fa)) (hs : notStar a = true) : PI X tg (.Call (.Name "range" p) [a] [] pos) (iE (gx X) fun σ M => (fa σ M).bind fun x M => rng1V x M) := by
  refine PI.mono (pi_range1 hg hm (den_c1 ha hs) (star_of hs)) fun σ H R h => ?_
  obtain ⟨ρ, M, ds, rep, rs, h⟩ := h
  refine ⟨ρ, M, ds, rep, rs, ?_⟩
  dsimp only at h ⊢
  cases e : fa ds M with
  | ok x M1 =>
    rw [e] at h
    intro ρ1 H1 e1 r1 vs rv
    obtain ⟨v, rfl, rq⟩ := RDs1 rv
    cases rq with
    | int n =>
      simp only [Res.bind_ok, rng1V] at h
      split at h
      · rename_i hn
        exact ⟨n, rfl, (bnd hn).1, (bnd hn).2, h ρ1 H1 e1 r1 _ itr_ok⟩
      · exact h.elim
    | _ => exact h.elim
  | exc _ _ => rw [e] at h; exact h
  | bad => rw [e] at h; exact h
theorem two_args {α : Type} {f : D → D → Mem → Res α} {ds : St'} {M : Mem} {ρ : Rho} {H : Hp} {Q : α → Mem → Rho → Hp → Prop} (h : Post (gx X) ρ H ((fa ds M).bind fun x M => (fb ds M).bind fun y M => f x y M) Q) :
    Post (gx X) ρ H ((fa ds M).bind fun x M => (fb ds M).bind fun y M => .ok [x, y] M) fun l M' ρ' H' => ∃ x y, l = [x, y] ∧ Post (gx X) ρ' H' (f x y M') Q := by
  cases e : fa ds M with
  | ok x M1 =>
    rw [e] at h
    simp only [Res.bind_ok] at h ⊢
    cases e2 : fb ds M1 with
    | ok y M2 =>
      rw [e2] at h
      simp only [Res.bind_ok] at h ⊢
      intro ρ' H' e' r'
      refine ⟨x, y, rfl, ?_⟩
      revert h
      cases f x y M2 with
      | ok a M3 => exact fun h ρ2 H2 e2 r2 => h ρ2 H2 (e'.trans e2) r2
      | exc _ _ => exact fun h => h
      | bad => exact fun h => h
    | exc _ _ => rw [e2] at h; exact h
    | bad => rw [e2] at h; exact h
  | exc _ _ => rw [e] at h; exact h
  | bad => rw [e] at h; exact h
theorem di_rng2 {p : Pos} (hg : Gl X "range") (hm : X.mg "range" = none) (ha : PE X a (tE (gx X) fa)) (hb : PE X b (tE (gx X) fb)) (hs : notStar a = true) (hs2 : notStar b = true) : PI X tg (.Call (.Name "range" p) [a, b] [] pos) (iE (gx X) fun σ M => (fa σ M).bind fun x M => (fb σ M).bind fun y M => rng2V x y M) := by
  refine PI.mono (pi_range2 hg hm (den_c2 ha hb hs hs2) (by rw [star_of hs, star_of hs2]; rfl) (by rw [star_of hs2]; rfl)) fun σ H R h => ?_
  obtain ⟨ρ, M, ds, rep, rs, h⟩ := h
  refine ⟨ρ, M, ds, rep, rs, (two_args h).mono fun l M1 ρ1 H1 e1 r1 h vs rv => ?_⟩
  obtain ⟨x, y, rfl, h⟩ := h
  obtain ⟨v, u, rfl, rq, ru⟩ := RDs2 rv
  cases rq with
  | int i =>
    cases ru with
    | int j =>
      simp only [rng2V] at h
      split at h
      · rename_i hn
        exact ⟨i, j, rfl, ⟨(bnd hn.1).1, (bnd hn.1).2, (bnd hn.2).1, (bnd hn.2).2⟩, h.here r1 _ itr_ok⟩
      · exact h.elim
    | _ => exact h.elim
  | _ => exact h.elim
theorem di_zip {elts : List Expr} {kk : Nat} {p tpos : Pos} (hg : Gl X "zip") (hm : X.mg "zip" = none) (ha : PE X a (tE (gx X) fa)) (hb : PE X b (tE (gx X) fb)) (hs : notStar a = true) (hs2 : notStar b = true) :
    PI X (.Tuple elts kk tpos) (.Call (.Name "zip" p) [a, b] [] pos) (iE (gx X) fun σ M => (fa σ M).bind fun x M => (fb σ M).bind fun y M => zipV x y M) := by
  refine PI.mono (pi_zipA hg hm (den_c2 ha hb hs hs2) (star_of hs) (back_plain (by simp [hs2]))) fun σ H R h => ?_
  obtain ⟨ρ, M, ds, rep, rs, h⟩ := h
  refine ⟨ρ, M, ds, rep, rs, (two_args h).mono fun l M1 ρ1 H1 e1 r1 h vs rv => ?_⟩
  obtain ⟨x, y, rfl, h⟩ := h
  obtain ⟨v, u, rfl, rq, ru⟩ := RDs2 rv
  cases rq with
  | tup h1 q =>
    cases ru with
    | tup h2 p => exact ⟨_, _, _, _, rfl, .inr ⟨h1.seq, h2.seq, h.here r1 _ (itzT_ok h1 h2 q p)⟩⟩
    | _ => exact h.elim
  | lst n h1 q =>
    cases ru with
    | lst n2 h2 p => exact ⟨_, _, _, _, rfl, .inl ⟨SqL.of h1, SqL.of h2, h.here r1 _ (itz_ok ⟨n, h1⟩ ⟨n2, h2⟩ q p)⟩⟩
    | _ => exact h.elim
  | _ => exact h.elim
theorem enumL_get : ∀ {xs : List D} {k i : Nat}, (enumL k xs)[i]? = (xs[i]?).map fun d => .wtp [.int ((k + i : Nat) : Int), d]
  | [], k, i => by simp [enumL]
  | a :: r, k, 0 => by simp [enumL]
  | a :: r, k, i + 1 => by
    have := enumL_get (xs := r) (k := k + 1) (i := i)
    simp only [enumL, List.getElem?_cons_succ, this]
    congr 1; funext d
    rw [show k + 1 + i = k + (i + 1) by omega]
theorem enumL_len : ∀ {xs : List D} {k : Nat}, (enumL k xs).length = xs.length
  | [], _ => rfl
  | _ :: r, k => by simp [enumL, enumL_len (xs := r)]
theorem ite_ok {gg : Gx} {ρ : Rho} {H : Hp} {a : Addr} {vs : List V} {xs : List D} (n : a ∉ ρ) (h : H a = some (.lst vs)) (q : RDs gg ρ H xs vs) : ItOk gg (Ite gg.K a) (enumL 0 xs) none ρ H := fun i ρ' H' M e r _ => by
  have h' : SqL gg.K H' a vs := SqL.of (e.keep _ _ h n).1
  have q := q.extW e
  rw [enumL_len]
  refine ⟨fun hi => ?_, fun hi => ⟨vs, h', by rw [← q.length]; exact hi⟩⟩
  obtain ⟨v, hv, rv⟩ := q.get (i := i) (by simp [hi] : xs[i]? = some xs[i])
  refine ⟨⟨vs, v, h', hv⟩, fun x H'' y => ?_⟩
  obtain ⟨T, x1, rfl, hT, rfl, y1⟩ := y
  have e1 := y1 vs h'
  rw [hv] at e1; cases e1
  refine ⟨.wtp [.int (i : Int), xs[i]], by rw [enumL_get]; simp [hi], r.new hT, Ext.new r hT, .wtp (r.fresh hT) upd_same (.cons (.int _) (.cons (rv.ext (Ext.new r hT)) .nil))⟩
theorem iteT_ok {gg : Gx} {ρ : Rho} {H : Hp} {a : Addr} {vs : List V} {xs : List D} (h : AtT gg ρ H a vs) (q : RDs gg ρ H xs vs) : ItOk gg (IteT gg.K a) (enumL 0 xs) none ρ H := fun i ρ' H' M e r _ => by
  have h' := (h.extW e).seq
  have q := q.extW e
  rw [enumL_len]
  refine ⟨fun hi => ?_, fun hi => ⟨vs, h', by rw [← q.length]; exact hi⟩⟩
  obtain ⟨v, hv, rv⟩ := q.get (i := i) (by simp [hi] : xs[i]? = some xs[i])
  refine ⟨⟨vs, v, h', hv⟩, fun x H'' y => ?_⟩
  obtain ⟨T, x1, rfl, hT, rfl, y1⟩ := y
  have e1 := y1 vs h'
  rw [hv] at e1; cases e1
  refine ⟨.wtp [.int (i : Int), xs[i]], by rw [enumL_get]; simp [hi], r.new hT, Ext.new r hT, .wtp (r.fresh hT) upd_same (.cons (.int _) (.cons (rv.ext (Ext.new r hT)) .nil))⟩
theorem di_enum {elts : List Expr} {kk : Nat} {p tpos : Pos} (hg : Gl X "enumerate") (hm : X.mg "enumerate" = none) (ha : PE X a (tE (gx X) fa)) (hs : notStar a = true) :
    PI X (.Tuple elts kk tpos) (.Call (.Name "enumerate" p) [a] [] pos) (iE (gx X) fun σ M => (fa σ M).bind fun x M => enumV x M) := by
  refine PI.mono (pi_enumA hg hm (den_c1 ha hs) (star_of hs)) fun σ H R h => ?_
  obtain ⟨ρ, M, ds, rep, rs, h⟩ := h
  refine ⟨ρ, M, ds, rep, rs, ?_⟩
  dsimp only at h ⊢
  cases e : fa ds M with
  | ok x M1 =>
    rw [e] at h
    intro ρ1 H1 e1 r1 vs rv
    obtain ⟨v, rfl, rq⟩ := RDs1 rv
    cases rq with
    | lst n h1 q => exact ⟨_, _, rfl, .inl ⟨SqL.of h1, h ρ1 H1 e1 r1 _ (ite_ok n h1 q)⟩⟩
    | tup h1 q => exact ⟨_, _, rfl, .inr ⟨h1.seq, h ρ1 H1 e1 r1 _ (iteT_ok h1 q)⟩⟩
    | _ => exact h.elim
  | exc _ _ => rw [e] at h; exact h
  | bad => rw [e] at h; exact h
end
end Ev

set_option Elab.async false
set_option linter.all false
set_option maxRecDepth 100000
set_option maxHeartbeats 1000000
/-! Ev11: comprehensions; statements. -/
namespace Ev
open PySem PySem.Spec PyProof.Rows L2
section
variable {S : Sx} {E : En} {X : Cx} {pos : Pos} {fa fb : St' → Mem → Res D} {a b tg it elt : Expr}
theorem lc_red {own : List (Str × Nat)} {sl : List Nat} {fi : St' → Mem → Res (List D × Option Nat)} {ft : D → St' → Mem → Res St'} {fp : St' → Mem → Res Bool} {fe : St' → Mem → Res D} {cell : Bool} (hsl : ∀ i ∈ sl, i ∈ own.map (·.2))
    {σ : L2.St} {H : Hp} {Q : VK} (h : tE (gx X) (fun σ M => (fi σ M).bind fun xs M => (compL xs.2 xs.1 ft fp fe (wipe' σ (own.map (·.2))) xs.1 [] M).bind fun acc M => fresh cell acc M) σ H Q) : tLc (iE (gx X) fi) (gT (gx X) sl ft) (tT (gx X) fp) (tE (gx X) fe) (own.map (·.2)) σ H Q := by
  obtain ⟨ρ, M, ds, rep, rs, h⟩ := h
  refine ⟨ρ, M, ds, rep, rs, h.bind.mono fun xs M1 ρ1 H1 e1 r1 h J hJ D hD => ?_⟩
  obtain ⟨xs, w⟩ := xs
  dsimp only at h hJ
  -- the state between two turns
  let Wk : Nat → Hp → Prop := fun i H' => ∃ ρ' M' acc vs, ExtW ρ1 H1 ρ' H' ∧ ρ'.gh = D :: ρ1.gh ∧ Rep (gx X) ρ' M' H' ∧ H' D = some (.lst vs) ∧ RDs (gx X) ρ' H' acc vs ∧ (∀ a ∈ ρ1.gh, H' a = H1 a) ∧ i ≤ xs.length ∧
    Post (gx X) ρ1 H1 ((compL w xs ft fp fe (wipe' ds (own.map (·.2))) (xs.drop i) acc M').bind fun acc M => fresh cell acc M) (QV (gx X) Q)
  have ghr : ∀ a ∈ ρ1.gh, ∃ o, H1 a = some o := fun a ha => (r1.gh a ha).2
  have gne : ∀ a ∈ ρ1.gh, a ≠ D := fun a ha => r1.ne (.inr ha) hD
  refine ⟨fun i m H' => m = xs.length - i ∧ Wk i H', ⟨xs.length, by simp, ρ1.ghost D, M1, [], [], ExtW.ghost hD, rfl, r1.ghost hD, upd_same, .nil, fun a ha => upd_ne (gne a ha), Nat.zero_le _, by rw [List.drop_zero]; exact h⟩, ?_⟩
  rintro i m H' ⟨rfl, ρ', M', acc, vs, eW, gh, rep', hD', ra, gk, hi', hp⟩
  have hDm : D ∈ ρ'.gh := by rw [gh]; exact List.mem_cons_self
  have wk : chkW w xs M' = true := by
    cases hq : chkW w xs M' with
    | true => rfl
    | false =>
      exfalso
      cases hd : xs.drop i with
      | nil => rw [hd] at hp; simp only [compL, hq] at hp; exact hp
      | cons x r => rw [hd] at hp; simp only [compL, hq] at hp; exact hp
  have jk := hJ i ρ' H' M' eW rep' (wOk_of wk)
  by_cases hlt : i < xs.length
  · obtain ⟨jgo, jy⟩ := jk.1 hlt
    refine .inr ⟨jgo, Wk (i + 1), fun H'' k => ⟨xs.length - (i + 1), by omega, rfl, k⟩, fun x H2 y => ?_⟩
    obtain ⟨d, hd, rep2, e2, rd⟩ := jy x H2 y
    have hdr : xs.drop i = d :: xs.drop (i + 1) := by
      rw [List.drop_eq_getElem_cons hlt]
      rw [List.getElem?_eq_getElem hlt] at hd; cases hd; rfl
    rw [hdr] at hp
    simp only [compL, wk, if_true, Res.bind_assoc] at hp
    -- what is known behind a step of the turn
    have rsw : RS (gx X) ρ' H2 (wipe' ds (own.map (·.2))) (wipe σ (own.map (·.2))) := ((rs.extW e1.toExtW).extW (eW.trans e2.toExtW)).wipe _
    -- the turn is over: with a further item or without
    have fin : ∀ {ρ5 : Rho} {M5 : Mem} {H5 : Hp} {acc' : List Ev.D}, Ext ρ' H' ρ5 H5 → Rep (gx X) ρ5 M5 H5 → ∀ vs', RDs (gx X) ρ5 H5 acc' vs' → (Post (gx X) ρ1 H1 ((compL w xs ft fp fe (wipe' ds (own.map (·.2))) (xs.drop (i + 1)) acc' M5).bind fun acc M => fresh cell acc M) (QV (gx X) Q)) → Wk (i + 1) (upd H5 D (.lst vs')) := by
      intro ρ5 M5 H5 acc' e5 r5 vs' ra' hp5
      have gh5 : ρ5.gh = D :: ρ1.gh := e5.gh.trans gh
      have hD5 : D ∈ ρ5.gh := by rw [gh5]; exact List.mem_cons_self
      refine ⟨ρ5, M5, acc', vs', (eW.trans e5.toExtW).trans (ExtW.turn hD5), gh5, r5.turn hD5, upd_same, ra'.extW (ExtW.turn hD5), fun a ha => ?_, hlt, hp5⟩
      rw [upd_ne (gne a ha), e5.gk a (by rw [gh]; exact List.mem_cons_of_mem _ ha)]
      exact gk a ha
    have same : ∀ {H5 : Hp}, H5 D = some (.lst vs) → upd H5 D (.lst vs) = H5 := by
      intro H5 e
      funext q
      unfold upd
      split
      · rename_i z; rw [z, e]
      · rfl
    cases ef : ft d (wipe' ds (own.map (·.2))) M' with
    | exc _ _ => rw [ef] at hp; exact hp.elim
    | bad => rw [ef] at hp; exact hp.elim
    | ok ds2 M2 =>
      rw [ef] at hp
      simp only [Res.bind_ok] at hp
      refine ⟨ρ', M', wipe' ds (own.map (·.2)), d, rep2, rsw, rd, ?_⟩
      rw [ef]
      intro ρ3 H3 e3 r3 σ2 rs2 off2
      refine ⟨off2.wipe hsl, ρ3, M2, ds2, r3, rs2, ?_⟩
      cases eb : fp ds2 M2 with
      | exc _ _ => rw [eb] at hp; exact hp.elim
      | bad => rw [eb] at hp; exact hp.elim
      | ok t M3 =>
        rw [eb] at hp
        simp only [Res.bind_ok] at hp
        intro ρ4 H4 e4 r4
        have e04 : Ext ρ' H' ρ4 H4 := (e2.trans e3).trans e4
        have hD4 : H4 D = some (.lst vs) := (e04.gk D hDm).trans hD'
        cases t with
        | false =>
          dsimp only at hp
          show Wk (i + 1) H4
          rw [← same hD4]
          exact fin e04 r4 vs (ra.ext e04) hp
        | true =>
          dsimp only at hp
          show tE (gx X) fe σ2 H4 _
          refine ⟨ρ4, M3, ds2, r4, rs2.ext e4, ?_⟩
          simp only [Res.bind_assoc] at hp
          cases ee : fe ds2 M3 with
          | exc _ _ => rw [ee] at hp; exact hp.elim
          | bad => rw [ee] at hp; exact hp.elim
          | ok dy M4 =>
            rw [ee] at hp
            simp only [Res.bind_ok] at hp
            intro ρ5 H5 e5 r5 v rv
            have e05 : Ext ρ' H' ρ5 H5 := e04.trans e5
            have hD5 : H5 D = some (.lst vs) := (e05.gk D hDm).trans hD'
            split at hp
            · rename_i hz
              refine ⟨vs, hD5, by rw [← ra.length]; exact LIM_lt hz, ?_⟩
              exact fin e05 r5 _ ((ra.ext e05).append (.cons rv .nil)) hp
            · exact hp.elim
  · have hie : i = xs.length := by omega
    refine .inl ⟨jk.2 (by omega), ?_⟩
    rw [hie, List.drop_length] at hp
    simp only [compL, wk, if_true, Res.bind_ok] at hp
    have nD : D ∉ ρ'.c := (rep'.gh D hDm).1
    have toU : ExtW ρ' H' ⟨ρ'.c, ρ1.gh⟩ H' := ⟨fun a o e n => ⟨e, fun q => n (by
        rcases q with q | q
        · exact .inl q
        · exact .inr (by rw [gh]; exact List.mem_cons_of_mem _ q))⟩, List.prefix_refl _⟩
    have repU : Rep (gx X) ⟨ρ'.c, ρ1.gh⟩ M' H' := ⟨rep'.len, rep'.nd, fun n a c h1 h2 => (rep'.cell n a c h1 h2).extW toU rfl, fun a ha => rep'.gh a (by rw [gh]; exact List.mem_cons_of_mem _ ha), rep'.un⟩
    have eU : Ext ρ1 H1 ⟨ρ'.c, ρ1.gh⟩ H' := ⟨eW.trans toU, rfl, gk⟩
    cases cell with
    | false =>
      refine hp _ _ eU repU _ (.lst ?_ hD' (ra.extW toU))
      rintro (q | q)
      · exact nD q
      · exact gne D q rfl
    | true =>
      have toC : ExtW ρ' H' ⟨ρ'.c ++ [D], ρ1.gh⟩ H' := ⟨fun a o e n => ⟨e, fun q => n (by
          rcases q with q | q
          · rcases List.mem_append.mp q with q | q
            · exact .inl q
            · rw [List.mem_singleton] at q; rw [q]; exact .inr hDm
          · exact .inr (by rw [gh]; exact List.mem_cons_of_mem _ q))⟩, List.prefix_append _ _⟩
      refine hp ⟨ρ'.c ++ [D], ρ1.gh⟩ H' ⟨eW.trans toC, rfl, gk⟩ ⟨by simp [rep'.len], List.nodup_append.mpr ⟨rep'.nd, by simp, fun a ha b hb => ?_⟩, fun n a c h1 h2 => ?_, fun a ha => ⟨fun q => ?_, by rw [gk a ha]; exact ghr a ha⟩, fun n c h2 => ?_⟩ _ (.obj ?_)
      · rw [List.mem_singleton] at hb; subst hb; rintro rfl; exact nD ha
      · have h1 : (ρ'.c ++ [D])[n]? = some a := h1
        by_cases hn : n < ρ'.c.length
        · rw [List.getElem?_append_left hn] at h1
          rw [List.getElem?_append_left (by rw [← rep'.len]; exact hn)] at h2
          exact (rep'.cell n a c h1 h2).extW toC rfl
        · have h3 : n = ρ'.c.length := by
            have := (List.getElem?_eq_some_iff.mp h1).1
            simp at this; omega
          subst h3
          rw [List.getElem?_append_right (Nat.le_refl _)] at h1
          rw [rep'.len, List.getElem?_append_right (Nat.le_refl _)] at h2
          simp at h1 h2
          subst h1; subst h2
          exact ⟨vs, hD', ra.extW toC⟩
      · rcases List.mem_append.mp (show a ∈ ρ'.c ++ [D] from q) with q | q
        · exact (rep'.gh a (by rw [gh]; exact List.mem_cons_of_mem _ ha)).1 q
        · rw [List.mem_singleton] at q; exact gne a ha q
      · by_cases hn : n < M'.length
        · rw [List.getElem?_append_left hn] at h2
          exact rep'.un n c h2
        · have h3 : n = M'.length := by
            have := (List.getElem?_eq_some_iff.mp h2).1
            simp at this; omega
          subst h3
          rw [List.getElem?_append_right (Nat.le_refl _)] at h2
          simp at h2
          subst h2
          show unds M'.length acc = true
          rw [← rep'.len]; exact ra.belowC
      · show (ρ'.c ++ [D])[M'.length]? = _
        rw [← rep'.len, List.getElem?_append_right (Nat.le_refl _)]; simp
/-- [elt for tg in it if ..] -/
theorem den_comp {own : List (Str × Nat)} {sl : List Nat} {scope : Scope} {ifs : List Expr} {fi : St' → Mem → Res (List D × Option Nat)} {ft : D → St' → Mem → Res St'} {fp : St' → Mem → Res Bool} {fe : St' → Mem → Res D} {cell : Bool}
    (hc : X.calm = true) (hN : X.N.Nodup) (hi : PI X tg it (iE (gx X) fi)) (ok : BlkOk X.N X.env.scope scope own)
    (hg : ∀ (s : Shared) (H : Hp) (C : Addr) (cl : List (Str × Addr)) (fp : List Addr), PG (X.blk s H scope (compEnvC scope cl C X.env) fp) tg (gT (gx X) sl ft))
    (hsl : ∀ i ∈ sl, i ∈ own.map (·.2))
    (ht : ∀ (s : Shared) (H : Hp) (C : Addr) (cl : List (Str × Addr)) (fp' : List Addr), PTs (X.blk s H scope (compEnvC scope cl C X.env) fp') ifs (tT (gx X) fp))
    (he : ∀ (s : Shared) (H : Hp) (C : Addr) (cl : List (Str × Addr)) (fp : List Addr), PE (X.blk s H scope (compEnvC scope cl C X.env) fp) elt (tE (gx X) fe)) (hs : notSet it = true) :
    PE X (.ListComp elt [⟨tg, it, ifs, 0⟩] scope pos) (tE (gx X) fun σ M => (fi σ M).bind fun xs M => (compL xs.2 xs.1 ft fp fe (wipe' σ (own.map (·.2))) xs.1 [] M).bind fun acc M => fresh cell acc M) :=
  PE.mono (pe_lc hc hN hi ok hg ht he (fold_of hs)) fun _ _ _ h => lc_red hsl h
end
end Ev

set_option Elab.async false
set_option linter.all false
set_option maxRecDepth 100000
set_option maxHeartbeats 1000000
/-! Ev12: statements. -/
namespace Ev
open PySem PySem.Spec PyProof.Rows L2
def setAll : St' → List Nat → List D → St'
  | σ, i :: l, d :: ds => setAll (σ.set i (some d)) l ds
  | σ, _, _ => σ
noncomputable def forL (w : Option Nat) (all : List D) (g : D → St' → Mem → Res St') (f : St' → Mem → Res Flow') : List D → St' → Mem → Res Flow'
  | [], σ, M => if chkW w all M then .ok (.next σ) M else .bad
  | x :: r, σ, M => if chkW w all M then (g x σ M).bind fun σ1 M => (f σ1 M).bind fun k M => match k with
    | .next σ2 => forL w all g f r σ2 M
    | .cnt σ2 => forL w all g f r σ2 M
    | .brk σ2 => .ok (.next σ2) M
    | .ret d => .ok (.ret d) M
    else .bad
def whlL (p : St' → Mem → Res Bool) (f : St' → Mem → Res Flow') : Nat → St' → Mem → Res Flow'
  | 0, _, _ => .bad
  | n + 1, σ, M => (p σ M).bind fun b M => match b with
    | true => (f σ M).bind fun k M => match k with
      | .next σ2 => whlL p f n σ2 M
      | .cnt σ2 => whlL p f n σ2 M
      | .brk σ2 => .ok (.next σ2) M
      | .ret d => .ok (.ret d) M
    | false => .ok (.next σ) M
def FUEL : Nat := 100000000
noncomputable section
variable (E : En)
mutual
def exS : S → St' → Mem → Res Flow'
  | .asg t e, σ, M => (ev E e σ M).bind fun x M => (asT E t x σ M).bind fun σ M => .ok (.next σ) M
  | .par l e, σ, M => (evs E e σ M).bind fun ds M => .ok (.next (setAll σ l ds)) M
  | .ex e, σ, M => (ev E e σ M).bind fun _ M => .ok (.next σ) M
  | .ret e, σ, M => (ev E e σ M).bind fun x M => .ok (.ret x) M
  | .retN, _, M => .ok (.ret .non) M
  | .if_ c a b, σ, M => ((ev E c σ M).bind fun x M => truR x M).bind fun t M => match t with
    | true => exs a σ M
    | false => exs b σ M
  | .for_ t it b, σ, M => (evi E it σ M).bind fun xs M => forL xs.2 xs.1 (fun d σ M => asT E t d σ M) (fun σ M => exs b σ M) xs.1 σ M
  | .whl c b, σ, M => whlL (fun σ M => (ev E c σ M).bind fun x M => truR x M) (fun σ M => exs b σ M) FUEL σ M
  | .pass, σ, M => .ok (.next σ) M
  | .brk, σ, M => .ok (.brk σ) M
  | .cnt, σ, M => .ok (.cnt σ) M
  | .never, _, _ => .bad
def exs : SL → St' → Mem → Res Flow'
  | .nil, σ, M => .ok (.next σ) M
  | .cons s l, σ, M => (exS s σ M).bind fun k M => match k with
    | .next σ => exs l σ M
    | k => .ok k M
end
end
def FQ (g : Gx) (D : Ends) : Flow' → Mem → Rho → Hp → Prop
  | .next ds, _, ρ, H => ∀ σ, RS g ρ H ds σ → D.nx σ H
  | .ret d, _, ρ, H => ∀ v, RD g ρ H d v → D.rt v H
  | .brk ds, _, ρ, H => ∀ σ, RS g ρ H ds σ → D.bk σ H
  | .cnt ds, _, ρ, H => ∀ σ, RS g ρ H ds σ → D.ct σ H
def tS (g : Gx) (f : St' → Mem → Res Flow') : TS := fun D σ H => ∃ ρ M ds, Rep g ρ M H ∧ RS g ρ H ds σ ∧ Post g ρ H (f ds M) (FQ g D)
theorem PS.mono {X : Cx} {e : Stmt} {t t' : TS} (h : PS X e t) (k : ∀ D σ H, t' D σ H → t D σ H) : PS X e t' := ⟨fun pins s σ H D I q => h.run pins s σ H D I (k D σ H q)⟩
theorem PSs.mono {X : Cx} {e : List Stmt} {t t' : TS} (h : PSs X e t) (k : ∀ D σ H, t' D σ H → t D σ H) : PSs X e t' := ⟨fun pins s σ H D I q => h.run pins s σ H D I (k D σ H q)⟩
section
variable {X : Cx} {pos : Pos} {st : Stmt} {rest : List Stmt} {e tg it : Expr} {fa : St' → Mem → Res D} {ft : D → St' → Mem → Res St'} {fp : St' → Mem → Res Bool} {fi : St' → Mem → Res (List D × Option Nat)} {f1 f2 : St' → Mem → Res Flow'} {sl : List Nat}
theorem ds_nil : PSs X [] (tS (gx X) fun σ M => .ok (.next σ) M) := by
  refine PSs.mono pss_nil fun D σ H h => ?_
  obtain ⟨ρ, M, ds, rep, rs, h⟩ := h
  exact h.here rep _ rs
theorem ds_cons (h1 : PS X st (tS (gx X) f1)) (h2 : PSs X rest (tS (gx X) f2)) : PSs X (st :: rest) (tS (gx X) fun σ M => (f1 σ M).bind fun k M => match k with
    | .next σ => f2 σ M
    | k => .ok k M) := by
  refine PSs.mono (pss_cons h1 h2) fun D σ H h => ?_
  obtain ⟨ρ, M, ds, rep, rs, h⟩ := h
  refine ⟨ρ, M, ds, rep, rs, h.bind.mono fun k M1 ρ1 H1 e1 r1 h => ?_⟩
  cases k with
  | next ds1 => exact fun σ1 rs1 => ⟨ρ1, M1, ds1, r1, rs1, h⟩
  | ret d => exact h.here r1
  | brk d => exact h.here r1
  | cnt d => exact h.here r1
theorem ds_pass : PS X (.Pass pos) (tS (gx X) fun σ M => .ok (.next σ) M) := by
  refine PS.mono ps_pass fun D σ H h => ?_
  obtain ⟨ρ, M, ds, rep, rs, h⟩ := h
  exact h.here rep _ rs
theorem ds_brk : PS X (.Break pos) (tS (gx X) fun σ M => .ok (.brk σ) M) := by
  refine PS.mono ps_break fun D σ H h => ?_
  obtain ⟨ρ, M, ds, rep, rs, h⟩ := h
  exact h.here rep _ rs
theorem ds_cnt : PS X (.Continue pos) (tS (gx X) fun σ M => .ok (.cnt σ) M) := by
  refine PS.mono ps_continue fun D σ H h => ?_
  obtain ⟨ρ, M, ds, rep, rs, h⟩ := h
  exact h.here rep _ rs
theorem ds_never : PS X st (tS (gx X) fun _ _ => .bad) := by
  refine PS.mono ps_never fun D σ H h => ?_
  obtain ⟨ρ, M, ds, rep, rs, h⟩ := h
  exact h.no
theorem ds_retN : PS X (.Return none pos) (tS (gx X) fun _ M => .ok (.ret .non) M) := by
  refine PS.mono ps_retN fun D σ H h => ?_
  obtain ⟨ρ, M, ds, rep, rs, h⟩ := h
  exact h.here rep _ .non
theorem ds_ret (he : PE X e (tE (gx X) fa)) : PS X (.Return (some e) pos) (tS (gx X) fun σ M => (fa σ M).bind fun x M => .ok (.ret x) M) := by
  refine PS.mono (ps_ret he) fun D σ H h => ?_
  obtain ⟨ρ, M, ds, rep, rs, h⟩ := h
  exact ⟨ρ, M, ds, rep, rs, h.bind.mono fun x M1 ρ1 H1 e1 r1 h => h.here r1⟩
def notComp : Expr → Bool
  | .ListComp .. => false
  | .SetComp .. => false
  | .DictComp .. => false
  | _ => true
theorem swaps_no {t : Option Expr} {n : Nat} {env : Env} (h : notComp e = true) : swapsWith e t n env = pure false := by
  cases e <;> first | rfl | (exact absurd h Bool.false_ne_true)
theorem ds_ex (he : PE X e (tE (gx X) fa)) (hs : notComp e = true) : PS X (.Expr e pos) (tS (gx X) fun σ M => (fa σ M).bind fun _ M => .ok (.next σ) M) := by
  refine PS.mono (ps_expr he (swaps_no hs)) fun D σ H h => ?_
  obtain ⟨ρ, M, ds, rep, rs, h⟩ := h
  exact ⟨ρ, M, ds, rep, rs, h.bind.mono fun x M1 ρ1 H1 e1 r1 h _ _ => h.here r1 _ (rs.ext e1)⟩
theorem asg_red {D : Ends} {σ : L2.St} {H : Hp} (h : tS (gx X) (fun σ M => (fa σ M).bind fun x M => (ft x σ M).bind fun σ M => .ok (.next σ) M) D σ H) : tAsg (tE (gx X) fa) (gT (gx X) sl ft) D σ H := by
  obtain ⟨ρ, M, ds, rep, rs, h⟩ := h
  exact ⟨ρ, M, ds, rep, rs, h.bind.mono fun x M1 ρ1 H1 e1 r1 h v rv => ⟨ρ1, M1, ds, x, r1, rs.ext e1, rv, h.bind.mono fun ds2 M2 ρ2 H2 e2 r2 h σ' rs' _ => h.here r2 _ rs'⟩⟩
theorem ds_asg (he : PE X e (tE (gx X) fa)) (hg : PG X tg (gT (gx X) sl ft)) (hs : swapsWithSole [tg] e pos.line X.env = pure false) (hw : swappedStores [tg] e X.env = pure none) (hst : notStar tg = true) :
    PS X (.Assign [tg] e pos) (tS (gx X) fun σ M => (fa σ M).bind fun x M => (ft x σ M).bind fun σ M => .ok (.next σ) M) := by
  refine PS.mono (ps_asg he hg hs hw ?_) fun D σ H h => asg_red h
  cases tg <;> first | rfl | (exact absurd hst Bool.false_ne_true)
theorem ds_if {c : Expr} {p q : List Stmt} (hc : PT X c (tT (gx X) fp)) (h1 : PSs X p (tS (gx X) f1)) (h2 : PSs X q (tS (gx X) f2)) : PS X (.If c p q pos) (tS (gx X) fun σ M => (fp σ M).bind fun t M => match t with
    | true => f1 σ M
    | false => f2 σ M) := by
  refine PS.mono (ps_if hc h1 h2) fun D σ H h => ?_
  obtain ⟨ρ, M, ds, rep, rs, h⟩ := h
  refine ⟨ρ, M, ds, rep, rs, h.bind.mono fun t M1 ρ1 H1 e1 r1 h => ?_⟩
  cases t with
  | true => rw [if_pos rfl]; exact ⟨ρ1, M1, ds, r1, rs.ext e1, h⟩
  | false => rw [if_neg Bool.false_ne_true]; exact ⟨ρ1, M1, ds, r1, rs.ext e1, h⟩
theorem ds_for {body : List Stmt} (hp : PassesOwn (model X.prog X.w) X.A X.env X.xe) (hc : X.calm = true) (hi : PI X tg it (iE (gx X) fi)) (hg : PG X tg (gT (gx X) sl ft)) (hb : PSs X body (tS (gx X) f1)) (hs : notSet it = true) :
    PS X (.For tg it body [] pos) (tS (gx X) fun σ M => (fi σ M).bind fun xs M => forL xs.2 xs.1 ft f1 xs.1 σ M) := by
  refine PS.mono (ps_for hp hc hi hg hb (fold_of hs)) fun D σ H h => ?_
  obtain ⟨ρ, M, ds, rep, rs, h⟩ := h
  refine ⟨ρ, M, ds, rep, rs, h.bind.mono fun xs M1 ρ1 H1 e1 r1 h J hJ => ?_⟩
  obtain ⟨xs, w⟩ := xs
  dsimp only at h hJ
  let Wk : Nat → L2.St → Hp → Prop := fun i σ' H' => ∃ ρ' M' ds', Ext ρ1 H1 ρ' H' ∧ Rep (gx X) ρ' M' H' ∧ RS (gx X) ρ' H' ds' σ' ∧ i ≤ xs.length ∧ Post (gx X) ρ' H' (forL w xs ft f1 (xs.drop i) ds' M') (FQ (gx X) D)
  refine ⟨fun i m σ' H' => m = xs.length - i ∧ Wk i σ' H', ⟨xs.length, by simp, ρ1, M1, ds, .refl _ _, r1, rs.ext e1, Nat.zero_le _, by rw [List.drop_zero]; exact h⟩, ?_⟩
  rintro i m σ' H' ⟨rfl, ρ', M', ds', e', rep', rs', hi', hp'⟩
  have wk : chkW w xs M' = true := by
    cases hq : chkW w xs M' with
    | true => rfl
    | false =>
      exfalso
      cases hd : xs.drop i with
      | nil => rw [hd] at hp'; simp only [forL, hq] at hp'; exact hp'
      | cons x r => rw [hd] at hp'; simp only [forL, hq] at hp'; exact hp'
  have jk := hJ i ρ' H' M' e'.toExtW rep' (wOk_of wk)
  by_cases hlt : i < xs.length
  · obtain ⟨jgo, jy⟩ := jk.1 hlt
    refine .inr ⟨jgo, Wk (i + 1), fun σ2 H'' k => ⟨xs.length - (i + 1), by omega, rfl, k⟩, fun x H2 y => ?_⟩
    obtain ⟨d, hd, rep2, e2, rd⟩ := jy x H2 y
    have hdr : xs.drop i = d :: xs.drop (i + 1) := by
      rw [List.drop_eq_getElem_cons hlt]
      rw [List.getElem?_eq_getElem hlt] at hd; cases hd; rfl
    rw [hdr] at hp'
    simp only [forL, wk, if_true] at hp'
    have hp2 : Post (gx X) ρ' H2 ((ft d ds' M').bind fun σ1 M => (f1 σ1 M).bind fun k M => match k with
      | .next σ2 => forL w xs ft f1 (xs.drop (i + 1)) σ2 M
      | .cnt σ2 => forL w xs ft f1 (xs.drop (i + 1)) σ2 M
      | .brk σ2 => .ok (.next σ2) M
      | .ret d => .ok (.ret d) M) (FQ (gx X) D) := by
      revert hp'
      cases ((ft d ds' M').bind fun σ1 M => (f1 σ1 M).bind fun k M => match k with
        | .next σ2 => forL w xs ft f1 (xs.drop (i + 1)) σ2 M
        | .cnt σ2 => forL w xs ft f1 (xs.drop (i + 1)) σ2 M
        | .brk σ2 => .ok (.next σ2) M
        | .ret d => .ok (.ret d) M) with
      | ok a M3 => exact fun hp' ρ3 H3 e3 r3 => hp' ρ3 H3 (e2.trans e3) r3
      | exc _ _ => exact fun hp' => hp'
      | bad => exact fun hp' => hp'
    refine ⟨ρ', M', ds', d, rep2, rs'.ext e2, rd, hp2.bind.mono fun ds3 M3 ρ3 H3 e3 r3 hp3 σ3 rs3 _ => ⟨ρ3, M3, ds3, r3, rs3, hp3.bind.mono fun k M4 ρ4 H4 e4 r4 hp4 => ?_⟩⟩
    have e14 : Ext ρ1 H1 ρ4 H4 := ((e'.trans e2).trans e3).trans e4
    cases k with
    | next ds4 => exact fun σ4 rs4 => ⟨ρ4, M4, ds4, e14, r4, rs4, hlt, hp4⟩
    | cnt ds4 => exact fun σ4 rs4 => ⟨ρ4, M4, ds4, e14, r4, rs4, hlt, hp4⟩
    | brk ds4 => exact hp4.here r4
    | ret d4 => exact hp4.here r4
  · have hie : i = xs.length := by omega
    refine .inl ⟨jk.2 (by omega), ?_⟩
    rw [hie, List.drop_length] at hp'
    simp only [forL, wk, if_true] at hp'
    exact hp'.here rep' _ rs'
theorem ds_whl {c : Expr} {body : List Stmt} (hp : PassesOwn (model X.prog X.w) X.A X.env X.xe) (hc : PT X c (tT (gx X) fp)) (hb : PSs X body (tS (gx X) f1)) (n : Nat) :
    PS X (.While c body [] pos) (tS (gx X) fun σ M => whlL fp f1 n σ M) := by
  refine PS.mono (ps_while hp hc hb) fun D σ H h => ?_
  obtain ⟨ρ, M, ds, rep, rs, h⟩ := h
  refine ⟨fun m σ H => ∃ ρ M ds, Rep (gx X) ρ M H ∧ RS (gx X) ρ H ds σ ∧ Post (gx X) ρ H (whlL fp f1 m ds M) (FQ (gx X) D), ⟨n, ρ, M, ds, rep, rs, h⟩, ?_⟩
  rintro m σ H ⟨ρ, M, ds, rep, rs, h⟩
  cases m with
  | zero => exact h.no.elim
  | succ m =>
    simp only [whlL] at h
    refine ⟨ρ, M, ds, rep, rs, h.bind.mono fun t M1 ρ1 H1 e1 r1 h => ?_⟩
    cases t with
    | false => show D.nx σ H1; exact h.here r1 _ (rs.ext e1)
    | true =>
      rw [if_pos rfl]
      refine ⟨fun σ' H' => ∃ ρ M ds, Rep (gx X) ρ M H' ∧ RS (gx X) ρ H' ds σ' ∧ Post (gx X) ρ H' (whlL fp f1 m ds M) (FQ (gx X) D), fun σ' H' k => ⟨m, Nat.lt_succ_self _, k⟩, ρ1, M1, ds, r1, rs.ext e1, h.bind.mono fun k M2 ρ2 H2 e2 r2 h => ?_⟩
      cases k with
      | next ds4 => exact fun σ4 rs4 => ⟨ρ2, M2, ds4, r2, rs4, h⟩
      | cnt ds4 => exact fun σ4 rs4 => ⟨ρ2, M2, ds4, r2, rs4, h⟩
      | brk ds4 => exact h.here r2
      | ret d4 => exact h.here r2
end
end Ev

set_option Elab.async false
set_option linter.all false
set_option maxRecDepth 100000
set_option maxHeartbeats 1000000
/-! Ev13: t[::-1], new dicts, names and constants, the stores that take an own road. -/
namespace Ev
open PySem PySem.Spec PyProof.Rows L2 HT
/-! ### turned round -/
theorem rev_pick (ys : Array Value) : ((List.range ys.size).filterMap fun (m : Nat) => ys[(((ys.size : Int) - 1) + (m : Int) * (-1)).toNat]?).toArray = ys.toList.reverse.toArray := by
  have e : (fun (m : Nat) => ys[(((ys.size : Int) - 1) + (m : Int) * (-1)).toNat]?) = (fun k => ys[k]?) ∘ fun m : Nat => (((ys.size : Int) - 1) + (m : Int) * (-1)).toNat := rfl
  rw [e, ← List.filterMap_map]
  have e2 : (List.range ys.size).map (fun m : Nat => (((ys.size : Int) - 1) + (m : Int) * (-1)).toNat) = (List.range ys.size).reverse := by
    rw [← PySem.W.krv_range]
    apply List.map_congr_left
    intro m hm
    have := List.mem_range.mp hm
    omega
  rw [e2, List.filterMap_reverse, PySem.W.krv_all]
section
variable {prog : Program} {w : World} {A : Around} {E : Value → Shared → Prop} {s : Shared}
theorem rev_applied {q : Addr} {c : Value} {n : Nat} {Q : Int × Int × Nat → Shared → Prop} (hq : s.heap.IsSliceOf q .none .none c) (pc : IsPart c (some (-1))) (h : Q ((n : Int) - 1, -1, n) s) :
    wpAny (model prog w) A (Builtin.Slice.sliceApplied (.ref q) (pure (n : Int))) Q E s := by
  obtain ⟨ob, h1, -, h2⟩ := id hq
  unfold Builtin.Slice.sliceApplied
  refine wpAny_bind ?_
  unfold Builtin.Slice.sliceFields
  refine wpAny_bind (wpAny_field h1 h2 (x := .none) rfl (wpAny_bind ?_))
  refine wpAny_field h1 h2 (x := .none) rfl (wpAny_bind ?_)
  refine wpAny_field h1 h2 (x := c) rfl (wpAny_pure ?_)
  refine wpAny_bind (slicePart_ pc ?_)
  show wpAny _ _ (if ((-1 : Int) == 0) = true then _ else _) _ _ s
  rw [if_neg (by decide)]
  refine wpAny_bind (slicePart_ .none ?_)
  refine wpAny_bind (slicePart_ .none (wpAny_bind (wpAny_pure ?_)))
  show wpAny _ _ (pure ((n : Int) - 1, (-1 : Int), Builtin.Slice.slicePlaces ((n : Int) - 1) (-1) (-1))) _ _ s
  have e : Builtin.Slice.slicePlaces ((n : Int) - 1) (-1) (-1) = n := by
    unfold Builtin.Slice.slicePlaces
    have z : ¬ (-1 : Int) > 0 := by omega
    simp only [z, if_false, Int.neg_neg, Int.ediv_one]
    split <;> omega
  rw [e]
  exact wpAny_pure h
theorem rev_get {t q : Addr} {ys : Array Value} {c : Value} {Q : Value → Shared → Prop} (ht : IsTup s.heap t ys) (hq : s.heap.IsSliceOf q .none .none c) (pc : IsPart c (some (-1))) (hz : ys.size ≤ sizeLine)
    (h : Q (.ref s.heap.objs.size) { s with heap := s.heap.push { cls := .type "tuple", data := .seq ys.toList.reverse.toArray } }) : wpAny (model prog w) A (getItem (.ref t) (.ref q)) Q E s := by
  have hT : s.TypeIs (.ref q) "slice" := by
    obtain ⟨ob, h1, h2, -⟩ := id hq
    exact ⟨ob, h1, h2⟩
  have fit : sizeOk (.seq ys.toList.reverse.toArray) := by
    show ys.toList.reverse.toArray.size ≤ sizeLine
    simpa using hz
  unfold getItem
  refine wpAny_holding ?_
  refine wpAny_bind (wpAny_sequenceKey ht.typeIs (by decide) ?_)
  refine wpAny_bind (wpAny_callSpecial?_slot (name := Str.ofString "__getitem__") ht.typeIs slot_tuple_getitem ?_)
  refine wpAny_call_entry slot_tuple_getitem ht.typeIs entry_tuple_getitem ?_ (args_tuple_getitem _ _)
  show wpAny _ _ (Builtin.Tuple.tupleItemsOf (.ref t) >>= _) _ _ s
  refine wpAny_bind (tupleItemsOf_ ht (wpAny_bind (wpAny_typeOf hT ?_)))
  rw [if_pos (by decide)]
  refine wpAny_bind (rev_applied hq pc ?_)
  show wpAny _ _ (if ((((ys.size : Int) - 1) == 0 && (-1 : Int) == 1 && ys.size == ys.size) = true) then _ else _) _ _ s
  have no : ¬ ((((ys.size : Int) - 1) == 0 && (-1 : Int) == 1 && ys.size == ys.size) = true) := by
    simp
  rw [if_neg no, rev_pick]
  refine wpAny_bind (m := Builtin.Tuple.tupleExact _) ?_
  refine wpAny_newObj_type ?_ fit
  first
    | exact wpAny_pure ⟨_, rfl, wpAny_pure h⟩
    | exact wpAny_pure (wpAny_pure ⟨_, rfl, wpAny_pure h⟩)
    | exact wpAny_bind (wpAny_pure (wpAny_pure ⟨_, rfl, wpAny_pure h⟩))
    | trace_state
end
section
variable {X : Cx} {fa : St' → Mem → Res D} {e : Expr} {pos : Pos}
def isRev : Expr → Bool
  | .Slice none none (some (.UnaryOp .USub (.Constant (.int 1) _ _) _)) _ => true
  | _ => false
theorem den_rev {sl : Expr} (hs : isRev sl = true) (he : PE X e (tE (gx X) fa)) : PE X (.Subscript e sl pos) (tE (gx X) fun σ M => (fa σ M).bind fun x M => revD x M) := by
  obtain ⟨k, p1, p2, p3, rfl⟩ : ∃ k p1 p2 p3, sl = .Slice none none (some (.UnaryOp .USub (.Constant (.int 1) k p1) p2)) p3 := by
    unfold isRev at hs
    split at hs
    · exact ⟨_, _, _, _, rfl⟩
    · cases hs
  refine ⟨fun pins s σ H Q I h => Subscript_ ?_⟩
  refine thn (he.run pins s σ H _ I (one (f := revD) h)) fun u s1 hu => ?_
  obtain ⟨x, H1, I1, rx, ρ, M, d, rep, rd, hp⟩ := hu
  have part : PO X (some (.UnaryOp .USub (.Constant (.int 1) k p1) p2)) (tPart (tUn (rU fun i => .int (-i)) (tC (.int 1)))) := po_some (pe_un un_neg pe_int)
  have nop : PO X none _ := po_none
  refine wpAny_Slice (thn (nop.run pins s1 σ H1 (fun o H2 => o = none ∧ H1 = H2) I1 ⟨rfl, rfl⟩) ?_)
  rintro va s2 ⟨_, _, I2, pa, rfl, rfl⟩
  refine thn (nop.run pins s2 σ _ (fun o H2 => o = none ∧ H1 = H2) I2 ⟨rfl, rfl⟩) ?_
  rintro vb s3 ⟨_, _, I3, pb, rfl, rfl⟩
  refine thn (part.run pins s3 σ _ (fun o H2 => o = some (-1) ∧ H1 = H2) I3 ⟨1, rfl, -1, rfl, rfl, rfl⟩) ?_
  rintro vc s4 ⟨_, _, I4, pc, rfl, rfl⟩
  have I5 : Inv X pins σ H1 { s4 with heap := s4.heap.push { cls := .type "slice", data := .fields #[va, vb, vc] } } := I4.kept (t' := s4.toks) fun _ _ z => Heap.get?_push_of_some _ z
  have na : va = .none := by cases pa; rfl
  have nb : vb = .none := by cases pb; rfl
  subst na; subst nb
  unfold revD at hp
  split at hp
  · obtain ⟨a, xs, rfl, ha, q⟩ := RD_tup rd
    cases rx
    obtain ⟨its, r, ht, hz⟩ := I5.tuple ha
    have hl := r.length
    refine tail_any (ops := [.ref a, .ref s4.heap.objs.size]) ht.typeIs slot_tuple_getitem.lookup ?_ (by with_unfolding_all rfl)
    refine rev_get ht (Heap.IsSliceOf.new _ _ _ vc) pc (by simpa [← hl] using hz) ?_
    exact ⟨.ref _, _, laid_tup I5 r.reverse (by rw [List.length_reverse]; exact hz), rfl, new_tup rep q.reverse hp (I5.hok.fresh (Nat.le_refl _))⟩
  · split at hp
    · rename_i l hl'
      obtain ⟨a, xs, rfl, ha, q⟩ := lrOf_ok rep rd hl'
      cases rx
      obtain ⟨its, r, ht, hz⟩ := I5.list ha
      have hl := r.length
      refine tail_any (ops := [.ref a, .ref s4.heap.objs.size]) ht.isList.typeIs slot_list_getitem.lookup ?_ (by with_unfolding_all rfl)
      refine wpAny_getItem_list_slice ht.isList (Heap.IsSliceOf.new _ _ _ vc) .none .none pc (by decide) ?_ (by simpa [← hl] using hz)
      rw [PySem.W.krv_pick]
      refine ⟨.ref _, _, I5.laid (t' := s4.toks) (o := .lst xs.reverse) (fun _ _ z => Heap.get?_push_of_some _ z) (Nat.le_refl _) ?_, rfl, new_lst rep q.reverse hp (I5.hok.fresh (Nat.le_refl _))⟩
      exact ⟨by simpa using hz, _, 0, r.reverse, Heap.get?_push_size _ rfl⟩
    · exact hp.no.elim
/-! ### {} -/
theorem den_dnew {c : Bool} : PE X (.Dict [] [] pos) (tE (gx X) fun _ M => if c then newCell M (.dct []) else .ok (.dct []) M) := by
  refine ⟨fun pins s σ H Q I h => wpAny_Dict_empty ?_⟩
  obtain ⟨ρ, M, ds, rep, rs, h⟩ := h
  have fr := I.hok.fresh (Nat.le_refl s.heap.objs.size)
  have ob : ObjOk X.prog X.w (upd H s.heap.objs.size (xo s.heap.objs.size { cls := .type "dict", data := .dict #[] })) (s.heap.push { cls := .type "dict", data := .dict #[] }) s.heap.objs.size (xo s.heap.objs.size { cls := .type "dict", data := .dict #[] }) :=
    ⟨Heap.get?_push_size _ rfl, ⟨_, Heap.get?_push_size _ rfl⟩, fun h1 h2 p1 p2 => p2 _ p1⟩
  have I1 := I.laid (t' := s.toks) (fun _ _ z => Heap.get?_push_of_some _ z) (Nat.le_refl _) ob
  have nb : (s.heap.objs.size == sysModules) = false := beq_eq_false_iff_ne.mpr (Ne.symm (Nat.ne_of_lt I.big))
  refine ⟨.ref s.heap.objs.size, _, I1, rfl, ?_⟩
  cases c with
  | false =>
    exact h _ _ (Ext.new rep fr) (rep.new fr) _ (.dct (.inl ⟨rep.fresh fr, upd_same⟩) nb ⟨rfl, rfl, rfl⟩ rfl ⟨.inl fun _ z => (nomatch z), List.nodup_nil⟩ .nil)
  | true =>
    refine h _ _ (Ext.cell rep fr) (rep.push fr ?_ rfl) _ (.obj ?_)
    · exact ⟨_, _, _, upd_same, nb, ⟨rfl, rfl, rfl⟩, rfl, ⟨.inl fun _ z => (nomatch z), List.nodup_nil⟩, .nil⟩
    · show (ρ.c ++ [s.heap.objs.size])[M.length]? = _
      rw [← rep.len, List.getElem?_append_right (Nat.le_refl _)]; simp
/-! ### {k: c, ..}, constants all -/
def ckLf (d : D) (e : Expr) : Bool := match e with
  | .Constant (.int j) _ _ => match d with
    | .int i => decide (i = j)
    | _ => false
  | .Constant (.str t) _ _ => match d with
    | .str x => decide (x = t)
    | _ => false
  | _ => false
def ckKs : List (D × D) → List (Option Expr) → List Expr → Bool
  | [], ks, es => ks.isEmpty && es.isEmpty
  | (k, d) :: r, ks, es => match ks, es with
    | some a :: ks, b :: es => ckLf k a && ckLf d b && ckKs r ks es
    | _, _ => false
def lfV : D → V
  | .int i => .int i
  | .str x => .str x
  | _ => .non
theorem ckLf_ok {d : D} {e : Expr} (h : ckLf d e = true) : d.leaf = true ∧ PE X e (tC (lfV d)) ∧ ∀ {g : Gx} {ρ : Rho} {H : Hp}, RD g ρ H d (lfV d) := by
  unfold ckLf at h
  split at h
  · split at h
    · cases (of_decide_eq_true h); exact ⟨rfl, pe_int, .int _⟩
    · cases h
  · split at h
    · cases (of_decide_eq_true h); exact ⟨rfl, pe_str, .str _⟩
    · cases h
  · cases h
theorem dd_walk {pins : List (Addr × Obj)} {σ : L2.St} {H : Hp} : ∀ {kvs : List (D × D)} {keys : List (Option Expr)} {es : List Expr}, ckKs kvs keys es = true → ∀ {s : Shared}, Inv X pins σ H s →
    wpAny (model X.prog X.w) X.A (evalPairs (pairTrees keys es X.env pos)) (fun vs s1 => Inv X pins σ H s1 ∧ ∃ ps : List (Key × Value), Carries (mixKind X.prog X.w) vs ps ∧ ∀ {g : Gx} {ρ : Rho} {H' : Hp}, Paired (EntL g ρ H') kvs ps) X.xe s
  | [], keys, es, hk, s, I => by
    cases keys with
    | cons _ _ => simp [ckKs] at hk
    | nil =>
      cases es with
      | cons _ _ => simp [ckKs] at hk
      | nil => exact evalPairs_nil ⟨I, [], True.intro, .nil⟩
  | (k, d) :: r, keys, es, hk, s, I => by
    match keys, es, hk with
    | some a :: ks, b :: es, hk =>
      simp only [ckKs, Bool.and_eq_true] at hk
      obtain ⟨⟨h1, h2⟩, h3⟩ := hk
      obtain ⟨l1, p1, r1⟩ := ckLf_ok (X := X) h1
      obtain ⟨l2, p2, r2⟩ := ckLf_ok (X := X) h2
      refine pairTrees_cons_walk (thn (p1.run pins s σ H (fun v H1 => v = lfV k ∧ H1 = H) I ⟨rfl, rfl⟩) ?_)
      rintro u s1 ⟨_, H1, I1, q1, rfl, e1⟩
      rw [e1] at I1
      refine thn (p2.run pins s1 σ _ (fun v H2 => v = lfV d ∧ H2 = H) I1 ⟨rfl, rfl⟩) ?_
      rintro w s2 ⟨_, H2, I2, q2, rfl, e2⟩
      rw [e2] at I2
      refine thn (dd_walk h3 I2) ?_
      rintro vs s3 ⟨I3, ps, c, e⟩
      exact ⟨I3, (lk k, w) :: ps, ⟨leaf_rel (X := X) (ρ := ⟨[], []⟩) (H := fun _ => none) l1 r1 q1, rfl, c⟩, .cons ⟨l1, rfl, _, r2, q2⟩ e⟩
    | [], _, hk => simp [ckKs] at hk
    | none :: _, _, hk => simp [ckKs] at hk
    | some _ :: _, [], hk => simp [ckKs] at hk
theorem ckKs_len : ∀ {kvs : List (D × D)} {keys : List (Option Expr)} {es : List Expr}, ckKs kvs keys es = true → keys.all (·.isSome) = true ∧ keys.length = kvs.length ∧ es.length = kvs.length
  | [], keys, es, hk => by
    simp only [ckKs, Bool.and_eq_true, List.isEmpty_iff] at hk
    obtain ⟨rfl, rfl⟩ := hk
    exact ⟨rfl, rfl, rfl⟩
  | (k, d) :: r, keys, es, hk => by
    match keys, es, hk with
    | some a :: ks, b :: es, hk =>
      simp only [ckKs, Bool.and_eq_true] at hk
      obtain ⟨h1, h2, h3⟩ := ckKs_len hk.2
      exact ⟨by simp [h1], by simp [h2], by simp [h3]⟩
    | [], _, hk => simp [ckKs] at hk
    | none :: _, _, hk => simp [ckKs] at hk
    | some _ :: _, [], hk => simp [ckKs] at hk
theorem merged_new {ps : List (Key × Value)} : ∀ {acc : List (Key × Value)}, ((acc ++ ps).map (·.1)).Nodup → merged acc ps = acc ++ ps := by
  induction ps with
  | nil => intro acc _; simp [merged]
  | cons p ps ih =>
    intro acc h
    have h2 : (acc.any fun kv => decide (kv.1 = p.1)) = false := by
      rw [List.any_eq_false]
      intro q hq e
      rw [List.map_append, List.nodup_append] at h
      exact h.2.2 q.1 (List.mem_map_of_mem hq) p.1 (by simp) (of_decide_eq_true e)
    have h3 : stored acc p.1 p.2 = acc ++ [p] := by
      unfold stored
      rw [if_neg (by rw [h2]; decide)]
    show merged (stored acc p.1 p.2) ps = _
    rw [h3, ih (by simpa using h)]
    simp
theorem den_ddis {kvs : List (D × D)} {keys : List (Option Expr)} {es : List Expr} {c : Bool} (h1 : ckKs kvs keys es = true) (h2 : (!kvs.isEmpty) = true) (h3 : kvs.length ≤ 15) (h4 : (kvs.map fun p => p.1.nk).Nodup) :
    PE X (.Dict keys es pos) (tE (gx X) fun _ M => if c then newCell M (.dct kvs) else .ok (.dct kvs) M) := by
  obtain ⟨k1, k2, k3⟩ := ckKs_len h1
  refine ⟨fun pins s σ H Q I h => ?_⟩
  obtain ⟨ρ, M, ds, rep, rs, h⟩ := h
  have fr := I.hok.fresh (Nat.le_refl s.heap.objs.size)
  have I1 := I.laid (a := s.heap.objs.size) (o := .dK []) (h' := s.heap.push { cls := .type "dict", data := .dict #[] }) (t' := s.toks) (fun _ _ q => Heap.get?_push_of_some _ q) (Nat.le_refl _) (dk_empty s.heap I.big)
  refine wpAny_Dict_walk (knd := mixKind X.prog X.w) k1 (by rw [k2, k3]) (fun e => ?_) (by rw [k2]; exact h3) (thn (dd_walk h1 I1) fun vs s2 ⟨I2, ps, cr, rel⟩ => ?_)
  · rw [e] at k2
    cases kvs with
    | nil => simp at h2
    | cons _ _ => simp at k2
  · obtain ⟨z, lo, vs0, r0, dd⟩ := dk_of I2.hok (a := s.heap.objs.size) (kvs := []) upd_same
    cases r0
    refine ⟨ps, cr, dd, fun h' dd' sb => ?_⟩
    have rel' := rel (g := gx X) (ρ := ρ) (H' := H)
    have lf := entL_leaf rel'
    have nd : (ps.map (·.1)).Nodup := by rw [entL_keys rel']; exact (leaf_nodup lf).mpr h4
    rw [merged_new (by simpa using nd), List.nil_append] at dd'
    obtain ⟨o', es', ep', ho', hx', hd', ko, pr, nd'⟩ := dd'
    have re := entL_rde pr rel' fun e he => ko e (by simpa using he)
    have W := I2.write (x := s.heap.objs.size) (e := s.heap.objs.size) (o := xo s.heap.objs.size o') (h' := h') (t' := s2.toks + vs.length) (by rw [upd_same]; exact True.intro) (.inl rfl) (fun b q hb e => (sb.2 b hb).trans e) ⟨o', ho'⟩ ⟨ho', ⟨_, ho'⟩, fun h1 h2 p1 p2 => p2 _ p1⟩
    have uu : upd (upd H s.heap.objs.size (.dK [])) s.heap.objs.size (xo s.heap.objs.size o') = upd H s.heap.objs.size (xo s.heap.objs.size o') := by
      funext b
      by_cases e : b = s.heap.objs.size
      · subst e; rw [upd_same, upd_same]
      · rw [upd_ne e, upd_ne e, upd_ne e]
    rw [uu] at W
    refine ⟨.ref _, _, W, rfl, ?_⟩
    cases c with
    | false => exact h _ _ (Ext.new rep fr) (rep.new fr) _ (.dct (.inl ⟨rep.fresh fr, upd_same⟩) lo hx' hd' ⟨.inl lf, h4⟩ (re.ext (Ext.new rep fr)))
    | true =>
      refine h _ _ (Ext.cell rep fr) (rep.push fr ⟨_, _, _, upd_same, lo, hx', hd', ⟨.inl lf, h4⟩, re.ext (Ext.cell rep fr)⟩ ?_) _ (.obj ?_)
      · rw [← rep.len]; exact re.belowC
      · show (ρ.c ++ [s.heap.objs.size])[M.length]? = _
        rw [← rep.len, List.getElem?_append_right (Nat.le_refl _)]; simp
end
end Ev

set_option Elab.async false
set_option linter.all false
set_option maxRecDepth 100000
set_option maxHeartbeats 1000000
/-! Ev14: names, constants, the stores that take an own road, blocks. -/
namespace Ev
open PySem PySem.Spec PyProof.Rows L2
def ndbg (x : Str) : Bool := !(x == ("__debug__" : Str)) && !(x == ("__classdict__" : Str))
theorem ndbg_1 {x : Str} (h : ndbg x = true) : (x == ("__debug__" : Str)) = false := by
  unfold ndbg at h; simp only [Bool.and_eq_true, Bool.not_eq_true'] at h; exact h.1
theorem ndbg_2 {x : Str} (h : ndbg x = true) : (x == ("__classdict__" : Str)) = false := by
  unfold ndbg at h; simp only [Bool.and_eq_true, Bool.not_eq_true'] at h; exact h.2
def visC (sc : Scope) (x : Str) : Bool := match sc.names.lookup x with
  | some .local => true
  | some .cell => true
  | some .free => true
  | _ => false
theorem visC_ok {sc : Scope} {x : Str} (h : visC sc x = true) : Vis sc x := by
  unfold visC at h
  split at h
  · exact .inl (by assumption)
  · exact .inr (.inl (by assumption))
  · exact .inr (.inr (by assumption))
  · cases h
def glC (sc : Scope) (x : Str) : Bool := match sc.names.lookup x with
  | some .globalImplicit => true
  | _ => false
theorem glC_ok {X : Cx} {S : Sx} {E : En} (ok : XOk S E X) {x : Str} (h : glC S.sc x = true) : Gl X x := by
  unfold glC at h
  split at h
  · show X.env.scope.names.lookup x = _
    rw [ok.sc]; assumption
  · cases h
def locC (S : Sx) (x : Str) : Bool := match S.sc.names.lookup x with
  | some .local => true
  | some .cell => S.fn.contains x
  | _ => false
theorem locC_ok {X : Cx} {S : Sx} {E : En} (ok : XOk S E X) {x : Str} (h : locC S x = true) : Loc X.env.scope x ∧ (X.fn x = true ∨ X.env.scope.names.lookup x = some .local) := by
  unfold locC at h
  rw [ok.sc]
  split at h
  · exact ⟨.inl (by assumption), .inr (by assumption)⟩
  · exact ⟨.inr (by assumption), .inl (ok.fn x (by simpa using h))⟩
  · cases h
def tyNm : String → Str
  | "int" => "int"
  | "str" => "str"
  | "tuple" => "tuple"
  | "list" => "list"
  | "bool" => "bool"
  | "dict" => "dict"
  | _ => ""
def tyIs (n : String) : Bool := n == "int" || n == "str" || n == "tuple" || n == "list" || n == "bool" || n == "dict"
theorem tyNm_boot {n : String} (h : tyIs n = true) : bootBuiltins (tyNm n) = some (.type n) ∧ tyNm n ≠ "__name__" := by
  unfold tyIs at h
  simp only [Bool.or_eq_true, beq_iff_eq] at h
  rcases h with ((((rfl | rfl) | rfl) | rfl) | rfl) | rfl <;> exact ⟨by decide +kernel, by decide⟩
def bltNm : Blt → Str
  | .len => "len"
  | .isi => "isinstance"
  | .repr => "repr"
  | .all => "all"
  | .any => "any"
  | .int => "int"
  | .abs => "abs"
  | .max => "max"
  | .min => "min"
  | .sum => "sum"
  | .tuple => "tuple"
  | .list => "list"
  | .divmod => "divmod"
  | .sorted => "sorted"
  | .dict => "dict"
theorem bltNm_boot (b : Blt) : bootBuiltins (bltNm b) = some (bltV b) ∧ bltNm b ≠ "__name__" ∧ (bltNm b == ("__debug__" : Str)) = false := by
  cases b <;> exact ⟨by decide +kernel, by decide, by decide⟩
section
variable {X : Cx} {S : Sx} {E : En} {pos : Pos}
theorem den_var {i : Nat} {x : Str} (hN : X.N[i]? = some x) (hv : Vis X.env.scope x) (hd : ndbg x = true) : PE X (.Name x pos) (tE (gx X) fun σ M => match σ[i]? with
    | some (some d) => .ok d M
    | _ => .bad) := by
  refine PE.mono (pe_var hN hv (ndbg_1 hd) (ndbg_2 hd)) fun σ H Q h => ?_
  obtain ⟨ρ, M, ds, rep, rs, h⟩ := h
  dsimp only at h
  split at h
  · rename_i d e
    obtain ⟨v, e2, rv⟩ := rs.get e
    exact ⟨v, e2, h.here rep v rv⟩
  · exact h.no.elim
theorem den_glo (ok : XOk S E X) {x : Str} (hx : x ∈ S.cs) (hg : Gl X x) (hd : ndbg x = true) : PE X (.Name x pos) (tE (gx X) fun σ M => match E.G x with
    | some d => .ok d M
    | none => .bad) := by
  obtain ⟨d, u, v, h1, h2, h3, h4⟩ := ok.cs x hx
  refine PE.mono (pe_glob hg h2 h3 (ndbg_1 hd)) fun σ H Q h => ?_
  obtain ⟨ρ, M, ds, rep, rs, h⟩ := h
  dsimp only at h
  rw [h1] at h
  exact h.here rep v (h4 _ _)
/-- constants; names of defs and of types -/
def ckK (S : Sx) : D → Expr → Bool
  | .non, .Constant .none _ _ => true
  | .bl b, .Constant (.bool b') _ _ => b == b'
  | .int i, .Constant (.int j) _ _ => decide (i = j)
  | .str s, .Constant (.str t) _ _ => decide (s = t)
  | .ty n, .Name x _ => tyIs n && decide (tyNm n = x) && S.fr.contains x && glC S.sc x && ndbg x
  | .fn x, .Name y _ => decide (x = y) && (S.ft.lookup x).isSome && glC S.sc x && ndbg x
  | _, _ => false
theorem den_k (ok : XOk S E X) {d : D} {e : Expr} (h : ckK S d e = true) : PE X e (tE (gx X) fun _ M => .ok d M) := by
  have fin : ∀ {v : V} {σ : L2.St} {H : Hp} {Q : VK}, (∀ ρ H, RD (gx X) ρ H d v) → tE (gx X) (fun _ M => .ok d M) σ H Q → Q v H := fun hr h => by
    obtain ⟨ρ, M, ds, rep, rs, h⟩ := h
    exact h.here rep _ (hr _ _)
  unfold ckK at h
  split at h
  · exact PE.mono pe_non fun σ H Q h => fin (fun _ _ => .non) h
  · cases (eq_of_beq h); exact PE.mono pe_bl fun σ H Q h => fin (fun _ _ => .bl _) h
  · cases (of_decide_eq_true h); exact PE.mono pe_int fun σ H Q h => fin (fun _ _ => .int _) h
  · cases (of_decide_eq_true h); exact PE.mono pe_str fun σ H Q h => fin (fun _ _ => .str _) h
  · simp only [Bool.and_eq_true, decide_eq_true_eq] at h
    obtain ⟨⟨⟨⟨h1, rfl⟩, h3⟩, h4⟩, h5⟩ := h
    obtain ⟨b1, b2⟩ := tyNm_boot h1
    exact PE.mono (pe_bltn (v := .ty _) (glC_ok ok h4) (ok.fr _ (by simpa using h3)) b1 rfl b2 (ndbg_1 h5)) fun σ H Q h => fin (fun _ _ => .ty _) h
  · simp only [Bool.and_eq_true, decide_eq_true_eq] at h
    obtain ⟨⟨⟨rfl, h2⟩, h3⟩, h4⟩ := h
    obtain ⟨fi, hfi⟩ := Option.isSome_iff_exists.mp h2
    obtain ⟨f, hm, hk, _⟩ := ok.ft _ fi hfi
    exact PE.mono (pe_glob (v := .ref f) (glC_ok ok h3) hm rfl (ndbg_1 h4)) fun σ H Q h => fin (fun _ _ => .fn hm hk) h
  · cases h
/-! ### stores that take an own road -/
variable {fa : St' → Mem → Res D} {fl : St' → Mem → Res (List D)} {e tg : Expr}
/-- a tuple's parts are stored as they stand, not exchanged -/
def isName : Expr → Bool
  | .Name .. => true
  | _ => false
def swNo (tg e : Expr) : Bool := match tg, e with
  | .Tuple ts _ _, .Tuple vs _ _ => !(ts.length == 2 || ts.length == 3) || vs.all (foldedForSure 8) || !ts.all isName
  | .List .., _ => false
  | _, _ => true
theorem ite_none {α : Type} {c : Prop} [Decidable c] {a b : α} (h : ¬ c → b = a) : (if c then a else b) = a := by
  by_cases k : c
  · exact if_pos k
  · rw [if_neg k]; exact h k
theorem names_all {β : Type} (F : Expr → Option β) (hF : ∀ e, isName e = false → F e = none) : ∀ {ts : List Expr}, (ts.filterMap F).length = ts.length → ts.all isName = true
  | [], _ => rfl
  | t :: ts, h => by
    have le : (ts.filterMap F).length ≤ ts.length := List.length_filterMap_le _ _
    cases e : isName t with
    | false =>
      rw [List.filterMap_cons_none (hF t e)] at h
      simp only [List.length_cons] at h
      omega
    | true =>
      simp only [List.all_cons, e, Bool.true_and]
      refine names_all F hF ?_
      cases q : F t with
      | none => rw [List.filterMap_cons_none q] at h; simp only [List.length_cons] at h; omega
      | some b => rw [List.filterMap_cons_some q] at h; simpa using h
theorem swNo_ok (hk : X.env.scope.kind = .function) (h : swNo tg e = true) : swappedStores [tg] e X.env = pure none := by
  unfold swNo at h
  split at h
  · rename_i ts _ _ vs _ _
    unfold swappedStores
    refine ite_none fun n1 => ite_none fun n2 => ite_none fun n3 => ?_
    simp only [Bool.or_eq_true] at h
    rcases h with (h | h) | h
    · exfalso; apply n1; rw [h]; rfl
    · exact if_pos h
    · exfalso
      apply n3
      simp only [Bool.or_eq_true]
      left
      refine bne_iff_ne.mpr fun q => ?_
      rw [names_all _ (fun e he => ?_) q] at h
      · cases h
      · cases e <;> first | rfl | (exact absurd he (fun z => nomatch z))
  · cases h
  · rename_i h1 h2
    cases tg <;> first | rfl | (exact (h1 _ _ rfl).elim) | skip
    cases e <;> first | rfl | exact (h2 _ _ _ _ _ _ rfl rfl).elim
def locName (sc : Scope) : Expr → Bool
  | .Name x _ => sc.names.lookup x == some .local
  | _ => false
theorem locs_all {β : Type} {p : Expr → Bool} (F : Expr → Option β) (hF : ∀ e, p e = false → F e = none) : ∀ {ts : List Expr}, (ts.filterMap F).length = ts.length → ts.all p = true
  | [], _ => rfl
  | t :: ts, h => by
    have le : (ts.filterMap F).length ≤ ts.length := List.length_filterMap_le _ _
    cases e : p t with
    | false =>
      rw [List.filterMap_cons_none (hF t e)] at h
      simp only [List.length_cons] at h
      omega
    | true =>
      simp only [List.all_cons, e, Bool.true_and]
      refine locs_all F hF ?_
      cases q : F t with
      | none => rw [List.filterMap_cons_none q] at h; simp only [List.length_cons] at h; omega
      | some b => rw [List.filterMap_cons_some q] at h; simpa using h
/-- or one of the names is a cell -/
def swNoS (sc : Scope) (tg e : Expr) : Bool := swNo tg e || (match tg, e with
  | .Tuple ts _ _, .Tuple _ _ _ => !ts.all (locName sc)
  | _, _ => false)
theorem swNoS_ok (hk : X.env.scope.kind = .function) (h : swNoS X.env.scope tg e = true) : swappedStores [tg] e X.env = pure none := by
  unfold swNoS at h
  rw [Bool.or_eq_true] at h
  rcases h with h | h
  · exact swNo_ok hk h
  · split at h
    · rename_i ts _ _ vs _ _
      unfold swappedStores
      refine ite_none fun n1 => ite_none fun n2 => ite_none fun n3 => ?_
      exfalso
      apply n3
      simp only [Bool.or_eq_true]
      left
      refine bne_iff_ne.mpr fun q => ?_
      rw [locs_all (p := locName X.env.scope) _ (fun e he => ?_) q] at h
      · cases h
      · cases e <;> first | rfl | skip
        rename_i x px
        have he : (X.env.scope.names.lookup x == some NameKind.local) = false := he
        have hk : (X.env.kindOf x == some NameKind.local) = false := he
        simp only [hk, Bool.false_and, Bool.false_eq_true, if_false]
    · cases h
end
end Ev

set_option Elab.async false
set_option linter.all false
set_option maxRecDepth 100000
set_option maxHeartbeats 1000000
/-! Ev15: stores side by side, comprehensions on the line of their name, blocks. -/
namespace Ev
open PySem PySem.Spec PyProof.Rows L2
section
variable {X : Cx} {S : Sx} {E : En} {pos : Pos} {fl : St' → Mem → Res (List D)} {a b c : Expr} {x y z : Str} {px py pz p p2 : Pos} {k k2 : Nat}
theorem blockKind_of (hk : X.env.scope.kind = .function) : X.env.blockKind = .function := by
  unfold Env.blockKind
  rw [hk]; rfl
theorem star_any {vs : List Expr} (h : vs.all notStar = true) : ¬ (vs.any fun | .Starred .. => true | _ => false) = true := by
  intro q
  obtain ⟨e, h1, h2⟩ := List.any_eq_true.mp q
  have h3 := List.all_eq_true.mp h e h1
  cases e <;> first | (exact absurd h3 Bool.false_ne_true) | (exact absurd h2 Bool.false_ne_true)
theorem ite_no {α : Type} {c : Prop} [Decidable c] {u v w : α} (n : ¬ c) (h : v = w) : (if c then u else v) = w := by rw [if_neg n]; exact h
theorem sw2 (hk : X.env.scope.kind = .function) (hx : X.env.scope.names.lookup x = some .local) (hy : X.env.scope.names.lookup y = some .local) (hl : py.line = px.line) (hn : x ≠ y) (hs : [a, b].all notStar = true)
    (h1 : [a, b].all (foldedForSure 8) = false) (h2 : [a, b].all (constantsAlone 8) = false) : swappedStores [.Tuple [.Name x px, .Name y py] k p] (.Tuple [a, b] k2 p2) X.env = pure (some [x, y]) := by
  have ex : X.env.kindOf x = some .local := hx
  have ey : X.env.kindOf y = some .local := hy
  unfold swappedStores
  have n : (y == x) = false := beq_false_of_ne (Ne.symm hn)
  refine ite_no (by simp [blockKind_of hk]) (ite_no (star_any hs) (ite_no ?_ (ite_no (by rw [h1]; exact Bool.false_ne_true) (ite_no (by rw [h2]; exact Bool.false_ne_true) ?_))))
  · simp [List.filterMap, ex, ey, hl, Expr.pos, List.eraseDups, List.eraseDupsBy, List.eraseDupsBy.loop, n]
  · simp [List.filterMap, ex, ey, hl, Expr.pos]
theorem sw3 (hk : X.env.scope.kind = .function) (hx : X.env.scope.names.lookup x = some .local) (hy : X.env.scope.names.lookup y = some .local) (hz : X.env.scope.names.lookup z = some .local) (hl : py.line = px.line) (hl2 : pz.line = px.line) (hn : x ≠ y) (hn2 : x ≠ z) (hn3 : y ≠ z) (hs : [a, b, c].all notStar = true)
    (h1 : [a, b, c].all (foldedForSure 8) = false) (h2 : [a, b, c].all (constantsAlone 8) = false) : swappedStores [.Tuple [.Name x px, .Name y py, .Name z pz] k p] (.Tuple [a, b, c] k2 p2) X.env = pure (some [x, y, z]) := by
  have ex : X.env.kindOf x = some .local := hx
  have ey : X.env.kindOf y = some .local := hy
  have ez : X.env.kindOf z = some .local := hz
  unfold swappedStores
  have n : (y == x) = false := beq_false_of_ne (Ne.symm hn)
  have n2 : (z == x) = false := beq_false_of_ne (Ne.symm hn2)
  have n3 : (z == y) = false := beq_false_of_ne (Ne.symm hn3)
  refine ite_no (by simp [blockKind_of hk]) (ite_no (star_any hs) (ite_no ?_ (ite_no (by rw [h1]; exact Bool.false_ne_true) (ite_no (by rw [h2]; exact Bool.false_ne_true) ?_))))
  · simp [List.filterMap, ex, ey, ez, hl, hl2, Expr.pos, List.eraseDups, List.eraseDupsBy, List.eraseDupsBy.loop, n, n2, n3]
  · simp [List.filterMap, ex, ey, ez, hl, hl2, Expr.pos]
theorem ds_par2 {i j : Nat} (hc : X.calm = true) (hk : X.env.scope.kind = .function) (hN : X.N.Nodup) (hi : X.N[i]? = some x) (hj : X.N[j]? = some y) (hij : i ≠ j) (hx : X.env.scope.names.lookup x = some .local) (hy : X.env.scope.names.lookup y = some .local) (hl : py.line = px.line) (hn : x ≠ y) (hs : [a, b].all notStar = true)
    (h1 : [a, b].all (foldedForSure 8) = false) (h2 : [a, b].all (constantsAlone 8) = false) (ha : PA X [a, b] (tA (gx X) fl)) (ll : ∀ ds M d M', fl ds M = .ok d M' → d.length = 2) :
    PS X (.Assign [.Tuple [.Name x px, .Name y py] k p] (.Tuple [a, b] k2 p2) pos) (tS (gx X) fun σ M => (fl σ M).bind fun ds M => .ok (.next (setAll σ [i, j] ds)) M) := by
  refine PS.mono (ps_par hc hN hi hj hij hx hy ha (sw2 hk hx hy hl hn hs h1 h2) rfl) fun D σ H h => ?_
  obtain ⟨ρ, M, ds, rep, rs, h⟩ := h
  dsimp only at h
  refine ⟨ρ, M, ds, rep, rs, ?_⟩
  cases ef : fl ds M with
  | exc _ _ => rw [ef] at h; exact h
  | bad => rw [ef] at h; exact h
  | ok l M1 =>
    rw [ef] at h
    have le := ll _ _ _ _ ef
    intro ρ1 H1 e1 r1 vs rv
    match l, vs, le, rv with
    | [d1, d2], [v1, v2], _, .cons q1 (.cons q2 .nil) => exact ⟨v1, v2, rfl, h _ _ e1 r1 _ ((((rs.ext e1).set (d := some d1) (v := some v1) q1 i)).set (d := some d2) (v := some v2) q2 j)⟩
theorem ds_par3 {i j l : Nat} (hc : X.calm = true) (hk : X.env.scope.kind = .function) (hN : X.N.Nodup) (hi : X.N[i]? = some x) (hj : X.N[j]? = some y) (hl' : X.N[l]? = some z) (hij : i ≠ j) (hil : i ≠ l) (hjl : j ≠ l) (hx : X.env.scope.names.lookup x = some .local) (hy : X.env.scope.names.lookup y = some .local) (hz : X.env.scope.names.lookup z = some .local) (hl : py.line = px.line) (hl2 : pz.line = px.line) (hn : x ≠ y) (hn2 : x ≠ z) (hn3 : y ≠ z) (hs : [a, b, c].all notStar = true)
    (h1 : [a, b, c].all (foldedForSure 8) = false) (h2 : [a, b, c].all (constantsAlone 8) = false) (ha : PA X [a, b, c] (tA (gx X) fl)) (ll : ∀ ds M d M', fl ds M = .ok d M' → d.length = 3) :
    PS X (.Assign [.Tuple [.Name x px, .Name y py, .Name z pz] k p] (.Tuple [a, b, c] k2 p2) pos) (tS (gx X) fun σ M => (fl σ M).bind fun ds M => .ok (.next (setAll σ [i, j, l] ds)) M) := by
  refine PS.mono (ps_par3 hc hN hi hj hl' hij hil hjl hx hy hz ha (sw3 hk hx hy hz hl hl2 hn hn2 hn3 hs h1 h2) rfl) fun D σ H h => ?_
  obtain ⟨ρ, M, ds, rep, rs, h⟩ := h
  dsimp only at h
  refine ⟨ρ, M, ds, rep, rs, ?_⟩
  cases ef : fl ds M with
  | exc _ _ => rw [ef] at h; exact h
  | bad => rw [ef] at h; exact h
  | ok l' M1 =>
    rw [ef] at h
    have le := ll _ _ _ _ ef
    intro ρ1 H1 e1 r1 vs rv
    match l', vs, le, rv with
    | [d1, d2, d3], [v1, v2, v3], _, .cons q1 (.cons q2 (.cons q3 .nil)) => exact ⟨v1, v2, v3, rfl, h _ _ e1 r1 _ (((((rs.ext e1).set (d := some d1) (v := some v1) q1 i)).set (d := some d2) (v := some v2) q2 j).set (d := some d3) (v := some v3) q3 l)⟩
/-! ### blocks -/
def relab (o i : Scope) : Scope := { i with names := i.names.map fun (m, q) => if (q == .free && o.kind == .function && o.names.lookup m == some .cell) then (m, .cell) else (m, q) }
def Sx.blk (S : Sx) (scope : Scope) : Sx := { S with sc := relab S.sc scope, fn := (scope.names.filter fun q => scope.names.lookup q.1 == some .cell).map (·.1) }
theorem XOk.blk (ok : XOk S E X) {scope : Scope} {s : Shared} {H : Hp} {C : Addr} {cl : List (Str × Addr)} {fp : List Addr} : XOk (S.blk scope) E (X.blk s H scope (compEnvC scope cl C X.env) fp) where
  N := ok.N
  sc := by
    show relabel scope X.env = relab S.sc scope
    rw [← ok.sc]; rfl
  nd := ok.nd
  calm := ok.calm
  fn := fun x hx => by
    obtain ⟨q, hq, rfl⟩ := List.mem_map.mp hx
    exact (List.mem_filter.mp hq).2
  xe := PassesOwn.never
  hu := ok.hu
  gd := ok.gd
  cs := ok.cs
  fr := ok.fr
  ft := ok.ft
  no := ok.no
  len := ok.len
  isfn := ok.isfn
  cl := ok.cl
/-! ### name = [..] -/
theorem ds_setLc {i : Nat} {own : List (Str × Nat)} {sl : List Nat} {scope : Scope} {ifs : List Expr} {elt tg it : Expr} {fi : St' → Mem → Res (List D × Option Nat)} {ft : D → St' → Mem → Res St'} {fp : St' → Mem → Res Bool} {fe : St' → Mem → Res D} {cell : Bool}
    (hc : X.calm = true) (hN : X.N.Nodup) (hk : X.env.scope.kind = .function) (hy : X.N[i]? = some y) (hyl : X.env.scope.names.lookup y = some .local) (hln : py.line = p.line) (hno : (scope.names.any fun q => q.1 == y && (q.2 == .local || q.2 == .cell)) = false)
    (hi : PI X tg it (iE (gx X) fi)) (ok : BlkOk X.N X.env.scope scope own)
    (hg : ∀ (s : Shared) (H : Hp) (C : Addr) (cl : List (Str × Addr)) (fp : List Addr), PG (X.blk s H scope (compEnvC scope cl C X.env) fp) tg (gT (gx X) sl ft))
    (hsl : ∀ i ∈ sl, i ∈ own.map (·.2))
    (ht : ∀ (s : Shared) (H : Hp) (C : Addr) (cl : List (Str × Addr)) (fp' : List Addr), PTs (X.blk s H scope (compEnvC scope cl C X.env) fp') ifs (tT (gx X) fp))
    (he : ∀ (s : Shared) (H : Hp) (C : Addr) (cl : List (Str × Addr)) (fp : List Addr), PE (X.blk s H scope (compEnvC scope cl C X.env) fp) elt (tE (gx X) fe)) (hs : notSet it = true) :
    PS X (.Assign [.Name y py] (.ListComp elt [⟨tg, it, ifs, 0⟩] scope p) pos) (tS (gx X) fun σ M => ((fi σ M).bind fun xs M => (compL xs.2 xs.1 ft fp fe (wipe' σ (own.map (·.2))) xs.1 [] M).bind fun acc M => fresh cell acc M).bind fun d M => .ok (.next (σ.set i (some d))) M) := by
  have sw : swapsWith (.ListComp elt [⟨tg, it, ifs, 0⟩] scope p) (some (.Name y py)) pos.line X.env = pure true := by
    have e1 : X.env.kindOf y = some .local := hyl
    unfold swapsWith
    show (pure _ : Sem Bool) = _
    simp only [blockKind_of hk, e1, hno, Bool.not_false, Bool.and_true]
    congr 1
    have q : (py.line == p.line) = true := beq_iff_eq.mpr hln
    exact q
  refine PS.mono (ps_setLc hc hN hy hyl sw hi ok hg ht he (fold_of hs)) fun D σ H h => ?_
  obtain ⟨ρ, M, ds, rep, rs, h⟩ := h
  refine lc_red (cell := cell) hsl ⟨ρ, M, ds, rep, rs, h.bind.mono fun d M1 ρ1 H1 e1 r1 h v rv => ?_⟩
  exact h.here r1 _ ((rs.ext e1).set (d := some d) (v := some v) rv i)
end
end Ev

set_option Elab.async false
set_option linter.all false
set_option maxRecDepth 100000
set_option maxHeartbeats 1000000
/-! Ev16: a check that a core text is the text of the program; what passes it does what it says: expressions. -/
namespace Ev
open PySem PySem.Spec PyProof.Rows L2
/-- tests that are walked by their own roads -/
def tst : Nat → Expr → Bool
  | n, .BoolOp _ es _ => match n with
    | n + 1 => es.all (tst n)
    | 0 => false
  | n, .UnaryOp .Not e _ => match n with
    | n + 1 => tst n e
    | 0 => false
  | _, .IfExp .. => false
  | _, _ => true
def isBool : Expr → Bool
  | .BoolOp .. => true
  | _ => false
mutual
def T.slots : T → List Nat
  | .var i => [i]
  | .tup l => l.slots
  | .sub _ _ => []
def TL.slots : TL → List Nat
  | .nil => []
  | .cons t l => t.slots ++ l.slots
end
mutual
def ckE : C → Sx → Expr → Bool
  | .k d, S, e => ckK S d e
  | .var i, S, e => match e with
    | .Name x _ => decide (S.N[i]? = some x) && visC S.sc x && ndbg x
    | _ => false
  | .glo x, S, e => match e with
    | .Name y _ => decide (x = y) && S.cs.contains x && glC S.sc x && ndbg x
    | _ => false
  | .bin op a b, S, e => match e with
    | .BinOp l o r _ => decide (op = o) && ckE a S l && ckE b S r
    | _ => false
  | .una op a, S, e => match e with
    | .UnaryOp o x _ => decide (op = o) && decide (op ≠ .Not) && ckE a S x
    | _ => false
  | .cmp op a b, S, e => match e with
    | .Compare l [o] [r] _ => decide (op = o) && ckE a S l && ckE b S r && !behindInMarks op r
    | _ => false
  | .chn op op' a b c, S, e => match e with
    | .Compare l [o, o'] [r, q] _ => decide (op = o) && decide (op' = o') && ckE a S l && ckE b S r && ckE c S q && !behindInMarks op r && !behindInMarks op' q
    | _ => false
  | .and_ a b, S, e => match e with
    | .BoolOp .And (x :: y :: r) p => ckE a S x && (match r with
      | [] => ckE b S y
      | z :: r => ckE b S (.BoolOp .And (y :: z :: r) p))
    | _ => false
  | .or_ a b, S, e => match e with
    | .BoolOp .Or (x :: y :: r) p => ckE a S x && (match r with
      | [] => ckE b S y
      | z :: r => ckE b S (.BoolOp .Or (y :: z :: r) p))
    | _ => false
  | .not_ a, S, e => match e with
    | .UnaryOp .Not x _ => ckE a S x
    | _ => false
  | .ite t a b, S, e => match e with
    | .IfExp t' a' b' _ => tst 20 t' && ckE t S t' && ckE a S a' && ckE b S b'
    | _ => false
  | .tup l, S, e => match e with
    | .Tuple es _ _ => ckL l S es
    | _ => false
  | .lst _ l, S, e => match e with
    | .List es _ => ckL l S es
    | _ => false
  | .dnew _, S, e => match e with
    | .Dict [] [] _ => true
    | _ => false
  | .ddis _ kvs, S, e => match e with
    | .Dict keys es _ => ckKs kvs keys es && !kvs.isEmpty && decide (kvs.length ≤ 15) && decide (kvs.map fun p => p.1.nk).Nodup
    | _ => false
  | .idx a b, S, e => match e with
    | .Subscript x i _ => plainI i && ckE a S x && ckE b S i
    | _ => false
  | .sli a lo hi, S, e => match e with
    | .Subscript x (.Slice l h none _) _ => ckE a S x && ckO lo S l && ckO hi S h
    | _ => false
  | .rev a, S, e => match e with
    | .Subscript x s _ => isRev s && ckE a S x
    | _ => false
  | .call x l k ord, S, e => match e with
    | .Call (.Name y _) es kws _ => decide (x = y) && glC S.sc x && ndbg x && ckL l S es && ckL k S (kws.map (·.value)) && kwAll kws && (match S.ft.lookup x with
      | some fi => decide (bindP fi.ps (kwNames kws) (inls 0 es.length) (inls es.length kws.length) (inrs 0 fi.dfl.length) = some ord) && bindOk fi.ps (kwNames kws) es.length fi.dfl.length
      | none => false)
    | _ => false
  | .cal i l, S, e => match e with
    | .Call (.Name x _) (e :: es) [] _ => decide (S.N[i]? = some x) && visC S.sc x && ndbg x && ckL l S (e :: es)
    | _ => false
  | .blt b l, S, e => match e with
    | .Call (.Name x _) (e :: es) [] _ => decide (bltNm b = x) && S.fr.contains x && glC S.sc x && ckL l S (e :: es)
    | _ => false
  | .met m o l, S, e => match e with
    | .Call (.Attribute o' nm ap) (e :: es) [] p => decide (metN m = nm) && baseOk o' && decide (es.length < 28) && (ap.endLine == p.line) && ckE o S o' && ckL l S (e :: es)
    | _ => false
  | .comp _ own t it ifs e, S, ex => match ex with
    | .ListComp elt [⟨tg, it', fs, as⟩] scope _ => decide (as = 0) && ckI it S tg it' && notSet it' && blkC S.N S.sc scope own && ckT t (S.blk scope) tg && (t.slots.all fun i => (own.map (·.2)).contains i) && ckE e (S.blk scope) elt &&
      (match fs with
      | [] => ckO ifs (S.blk scope) none
      | [c] => ckO ifs (S.blk scope) (some c) && tst 20 c
      | _ => false)
    | _ => false
def ckL : CL → Sx → List Expr → Bool
  | .nil, _, es => es.isEmpty
  | .cons a l, S, es => match es with
    | e :: es => notStar e && ckE a S e && ckL l S es
    | [] => false
def ckO : CO → Sx → Option Expr → Bool
  | .none, _, e => e.isNone
  | .some a, S, e => match e with
    | some e => ckE a S e
    | none => false
def ckT : T → Sx → Expr → Bool
  | .var i, S, e => match e with
    | .Name x _ => decide (S.N[i]? = some x) && locC S x
    | _ => false
  | .tup l, S, e => match e with
    | .Tuple ts _ _ => ckTs l S ts
    | _ => false
  | .sub a b, S, e => match e with
    | .Subscript o i _ => plainI i && ckE a S o && ckE b S i
    | _ => false
def ckTs : TL → Sx → List Expr → Bool
  | .nil, _, es => es.isEmpty
  | .cons a l, S, es => match es with
    | e :: es => notStar e && ckT a S e && ckTs l S es
    | [] => false
def ckI : I → Sx → Expr → Expr → Bool
  | .val a, S, _, e => ckE a S e
  | .rng1 a, S, _, e => match e with
    | .Call (.Name y _) [x] [] _ => decide (y = ("range" : Str)) && S.fr.contains y && glC S.sc y && notStar x && ckE a S x
    | _ => false
  | .rng2 a b, S, _, e => match e with
    | .Call (.Name y _) [x, z] [] _ => decide (y = ("range" : Str)) && S.fr.contains y && glC S.sc y && notStar x && notStar z && ckE a S x && ckE b S z
    | _ => false
  | .zip a b, S, tg, e => match tg with
    | .Tuple _ _ _ => match e with
      | .Call (.Name y _) [x, z] [] _ => decide (y = ("zip" : Str)) && S.fr.contains y && glC S.sc y && notStar x && notStar z && ckE a S x && ckE b S z
      | _ => false
    | _ => false
  | .enum a, S, tg, e => match tg with
    | .Tuple _ _ _ => match e with
      | .Call (.Name y _) [x] [] _ => decide (y = ("enumerate" : Str)) && S.fr.contains y && glC S.sc y && notStar x && ckE a S x
      | _ => false
    | _ => false
end
end Ev

set_option Elab.async false
set_option linter.all false
set_option maxRecDepth 100000
set_option maxHeartbeats 1000000
/-! Ev17: what passes the check of expressions does what it says. -/
namespace Ev
open PySem PySem.Spec PyProof.Rows L2
section
variable {E : En} {X : Cx} {S : Sx}
structure Good (E : En) (X : Cx) (c : C) (e : Expr) : Prop where
  pe : PE X e (tE (gx X) (ev E c))
  pt : ∀ n, tst n e = true → PT X e (tT (gx X) fun σ M => (ev E c σ M).bind fun x M => truR x M)
  pw : ∀ n, tst n e = true → isBool e = true → PW X e (tT (gx X) fun σ M => (ev E c σ M).bind fun x M => truR x M)
def plainB (e : Expr) : Bool := plainT e && !isBool e
theorem plainB_of {e : Expr} (h : plainT e = true) : isBool e = false := by
  cases e <;> first | rfl | (exact absurd h Bool.false_ne_true)
theorem Good.of {c : C} {e : Expr} (h : PE X e (tE (gx X) (ev E c))) (hp : plainT e = true) : Good E X c e :=
  ⟨h, fun _ _ => den_test h hp, fun _ _ hb => by rw [plainB_of hp] at hb; cases hb⟩
theorem PW.mono {X : Cx} {e : Expr} {t t' : TT} (h : PW X e t) (k : ∀ σ H Q, t' σ H Q → t σ H Q) : PW X e t' := ⟨fun wh pins s σ H Q I q => h.run wh pins s σ H Q I (k σ H Q q)⟩
theorem tE_eq {f f' : St' → Mem → Res D} (h : ∀ σ M, f σ M = f' σ M) : tE (gx X) f = tE (gx X) f' := by
  have : f = f' := funext fun σ => funext fun M => h σ M
  rw [this]
theorem tT_eq {f f' : St' → Mem → Res Bool} (h : ∀ σ M, f σ M = f' σ M) : tT (gx X) f = tT (gx X) f' := by
  have : f = f' := funext fun σ => funext fun M => h σ M
  rw [this]
theorem and_test (r : Res D) (k : Mem → Res D) : (r.bind fun x M => (truR x M).bind fun t M => match t with
    | true => k M
    | false => .ok x M).bind (fun x M => truR x M) = (r.bind fun x M => truR x M).bind fun t M => match t with
    | true => (k M).bind fun x M => truR x M
    | false => .ok false M := by
  cases r with
  | ok x M =>
    simp only [Res.bind_ok, Res.bind_assoc]
    unfold truR
    cases h : truth M x with
    | none => rfl
    | some t => cases t <;> simp [h]
  | exc _ _ => rfl
  | bad => rfl
theorem or_test (r : Res D) (k : Mem → Res D) : (r.bind fun x M => (truR x M).bind fun t M => match t with
    | true => .ok x M
    | false => k M).bind (fun x M => truR x M) = (r.bind fun x M => truR x M).bind fun t M => match t with
    | true => .ok true M
    | false => (k M).bind fun x M => truR x M := by
  cases r with
  | ok x M =>
    simp only [Res.bind_ok, Res.bind_assoc]
    unfold truR
    cases h : truth M x with
    | none => rfl
    | some t => cases t <;> simp [h]
  | exc _ _ => rfl
  | bad => rfl
inductive AllL (E : En) (X : Cx) : CL → List Expr → Prop
  | nil : AllL E X .nil []
  | cons {a : C} {l : CL} {e : Expr} {es : List Expr} : PE X e (tE (gx X) (ev E a)) → notStar e = true → AllL E X l es → AllL E X (.cons a l) (e :: es)
theorem AllL.pa : ∀ {l : CL} {es : List Expr}, AllL E X l es → PA X es (tA (gx X) (evs E l))
  | _, _, .nil => den_nil
  | _, _, .cons h n r => den_cons h r.pa n
theorem AllL.pk : ∀ {l : CL} {kws : List Keyword}, AllL E X l (kws.map (·.value)) → PK X kws (tA (gx X) (evs E l))
  | _, [], .nil => den_knil
  | _, ⟨_, _, _⟩ :: _, .cons h n r => den_kcons h r.pk
theorem AllL.len : ∀ {l : CL} {es : List Expr}, AllL E X l es → l.len = es.length
  | _, _, .nil => rfl
  | _, _, .cons _ _ r => congrArg (· + 1) r.len
theorem AllL.star : ∀ {l : CL} {es : List Expr}, AllL E X l es → es.all notStar = true
  | _, _, .nil => rfl
  | _, _, .cons _ n r => by simp [n, r.star]
theorem evs_len : ∀ {l : CL} {σ : St'} {M : Mem} {ds : List D} {M' : Mem}, evs E l σ M = .ok ds M' → ds.length = l.len
  | .nil, σ, M, ds, M', h => by simp only [evs] at h; cases h; rfl
  | .cons a l, σ, M, ds, M', h => by
    simp only [evs] at h
    cases e1 : ev E a σ M with
    | ok x M1 =>
      rw [e1] at h
      simp only [Res.bind_ok] at h
      cases e2 : evs E l σ M1 with
      | ok xs M2 =>
        rw [e2] at h
        simp only [Res.bind_ok] at h
        cases h
        exact congrArg (· + 1) (evs_len e2)
      | exc _ _ => rw [e2] at h; cases h
      | bad => rw [e2] at h; cases h
    | exc _ _ => rw [e1] at h; cases h
    | bad => rw [e1] at h; cases h
inductive AllT (E : En) (X : Cx) : TL → List Expr → Prop
  | nil : AllT E X .nil []
  | cons {t : T} {l : TL} {e : Expr} {es : List Expr} : PG X e (gT (gx X) t.slots (asT E t)) → notStar e = true → AllT E X l es → AllT E X (.cons t l) (e :: es)
theorem AllT.pg : ∀ {l : TL} {es : List Expr}, AllT E X l es → PGs X es (gTs (gx X) l.slots (asTs E l))
  | _, _, .nil => by
    have h : asTs E .nil = fun l σ M => match l with
      | [] => .ok σ M
      | _ => .bad := by
      funext l σ M
      cases l <;> simp only [asTs]
    rw [h]
    exact dg_nil
  | _, _, .cons h n r => by
    rename_i t l e es
    have q : asTs E (.cons t l) = fun ds σ M => match ds with
      | d :: ds => (asT E t d σ M).bind fun σ M => asTs E l ds σ M
      | _ => .bad := by
      funext ds σ M
      cases ds <;> simp only [asTs]
    rw [q]
    exact dg_cons h r.pg (assignEach_cons n)
theorem AllT.len : ∀ {l : TL} {es : List Expr}, AllT E X l es → l.len = es.length
  | _, _, .nil => rfl
  | _, _, .cons _ _ r => congrArg (· + 1) r.len
theorem AllT.star : ∀ {l : TL} {es : List Expr}, AllT E X l es → es.all notStar = true
  | _, _, .nil => rfl
  | _, _, .cons _ n r => by simp [n, r.star]
def GoodO (E : En) (X : Cx) (c : CO) (e : Option Expr) : Prop := match c, e with
  | .none, none => True
  | .some a, some e => Good E X a e
  | _, _ => False
theorem ev_eq {c : C} {f : St' → Mem → Res D} {e : Expr} (hf : ∀ σ M, ev E c σ M = f σ M) (h : PE X e (tE (gx X) f)) : PE X e (tE (gx X) (ev E c)) := by
  have q : ev E c = f := funext fun σ => funext fun M => hf σ M
  rw [q]; exact h
theorem good_and {a b : C} {x y : Expr} {r : List Expr} {p : Pos} (ha : Good E X a x) (hb : match r with
    | [] => Good E X b y
    | z :: r => Good E X b (.BoolOp .And (y :: z :: r) p)) : Good E X (.and_ a b) (.BoolOp .And (x :: y :: r) p) := by
  have rest : PE X (.BoolOp .And (y :: r) p) (tE (gx X) (ev E b)) := by
    cases r with
    | nil => exact pe_one hb.pe
    | cons z r => exact hb.pe
  have pw : ∀ n, tst n (.BoolOp .And (x :: y :: r) p) = true → PW X (.BoolOp .And (x :: y :: r) p) (tT (gx X) fun σ M => (ev E (.and_ a b) σ M).bind fun x M => truR x M) := by
    intro n hn
    cases n with
    | zero => cases hn
    | succ n =>
      simp only [tst, List.all_cons, Bool.and_eq_true] at hn
      obtain ⟨n1, n2, n3⟩ := hn
      have rw' : PW X (.BoolOp .And (y :: r) p) (tT (gx X) fun σ M => (ev E b σ M).bind fun x M => truR x M) := by
        cases r with
        | nil => exact pw_and1 (hb.pt n n2)
        | cons z r =>
          refine hb.pw (n + 1) ?_ rfl
          simp only [tst, List.all_cons, Bool.and_eq_true] at n3 ⊢
          exact ⟨n2, n3⟩
      have := dt_and (ha.pt n n1) rw'
      rw [tT_eq (f' := fun σ M => (ev E (.and_ a b) σ M).bind fun x M => truR x M) fun σ M => ?_] at this
      · exact this
      · simp only [ev]
        exact (and_test _ _).symm
  refine ⟨ev_eq (fun σ M => by simp only [ev] <;> rfl) (den_and ha.pe rest), fun n hn => (pw n hn).pt, fun n hn _ => pw n hn⟩
theorem good_or {a b : C} {x y : Expr} {r : List Expr} {p : Pos} (ha : Good E X a x) (hb : match r with
    | [] => Good E X b y
    | z :: r => Good E X b (.BoolOp .Or (y :: z :: r) p)) : Good E X (.or_ a b) (.BoolOp .Or (x :: y :: r) p) := by
  have rest : PE X (.BoolOp .Or (y :: r) p) (tE (gx X) (ev E b)) := by
    cases r with
    | nil => exact pe_one hb.pe
    | cons z r => exact hb.pe
  have pw : ∀ n, tst n (.BoolOp .Or (x :: y :: r) p) = true → PW X (.BoolOp .Or (x :: y :: r) p) (tT (gx X) fun σ M => (ev E (.or_ a b) σ M).bind fun x M => truR x M) := by
    intro n hn
    cases n with
    | zero => cases hn
    | succ n =>
      simp only [tst, List.all_cons, Bool.and_eq_true] at hn
      obtain ⟨n1, n2, n3⟩ := hn
      have rw' : PW X (.BoolOp .Or (y :: r) p) (tT (gx X) fun σ M => (ev E b σ M).bind fun x M => truR x M) := by
        cases r with
        | nil => exact pw_or1 (hb.pt n n2)
        | cons z r =>
          refine hb.pw (n + 1) ?_ rfl
          simp only [tst, List.all_cons, Bool.and_eq_true] at n3 ⊢
          exact ⟨n2, n3⟩
      have := dt_or (ha.pt n n1) rw'
      rw [tT_eq (f' := fun σ M => (ev E (.or_ a b) σ M).bind fun x M => truR x M) fun σ M => ?_] at this
      · exact this
      · simp only [ev]
        exact (or_test _ _).symm
  refine ⟨ev_eq (fun σ M => by simp only [ev] <;> rfl) (den_or ha.pe rest), fun n hn => (pw n hn).pt, fun n hn _ => pw n hn⟩
theorem good_not {a : C} {x : Expr} {p : Pos} (ha : Good E X a x) : Good E X (.not_ a) (.UnaryOp .Not x p) := by
  refine ⟨ev_eq (fun σ M => by simp only [ev]) (den_not ha.pe), fun n hn => ?_, fun n hn hb => by cases hb⟩
  cases n with
  | zero => cases hn
  | succ n =>
    have := dt_not (pos := p) (ha.pt n hn)
    rw [tT_eq (f' := fun σ M => (ev E (.not_ a) σ M).bind fun x M => truR x M) fun σ M => ?_] at this
    · exact this
    · simp only [ev, Res.bind_assoc, Res.bind_ok, truR, truth]
theorem good_cmp {a b : C} {x y : Expr} {p : Pos} {op : CmpOp} (hu : X.A.units + 64 < cLine) (ha : Good E X a x) (hb : Good E X b y) (hm : behindInMarks op y = false) : Good E X (.cmp op a b) (.Compare x [op] [y] p) := by
  refine ⟨ev_eq (fun σ M => by simp only [ev]) (den_cmp hu ha.pe hb.pe hm), fun n _ => ?_, fun n hn hb => by cases hb⟩
  have := dt_cmp (pos := p) hu ha.pe hb.pe hm
  rw [tT_eq (f' := fun σ M => (ev E (.cmp op a b) σ M).bind fun x M => truR x M) fun σ M => ?_] at this
  · exact this
  · simp only [ev]
theorem good_chn {a b c : C} {x y z : Expr} {p : Pos} {op op' : CmpOp} (hu : X.A.units + 64 < cLine) (ha : Good E X a x) (hb : Good E X b y) (hc : Good E X c z) (hm : behindInMarks op y = false) (hm' : behindInMarks op' z = false) : Good E X (.chn op op' a b c) (.Compare x [op, op'] [y, z] p) := by
  refine ⟨ev_eq (fun σ M => by simp only [ev] <;> rfl) (den_chn hu ha.pe hb.pe hc.pe hm hm'), fun n _ => ?_, fun n hn hb => by cases hb⟩
  have := dt_chn (pos := p) hu ha.pe hb.pe hc.pe hm hm'
  rw [tT_eq (f' := fun σ M => (ev E (.chn op op' a b c) σ M).bind fun x M => truR x M) fun σ M => ?_] at this
  · exact this
  · simp only [ev, Res.bind_assoc]
    congr 1; funext x M; congr 1; funext y M; congr 1; funext r M
    cases r <;> try rfl
    rename_i t
    cases t
    · rfl
    · exact (Res.bind_assoc _ _ _).symm
theorem good_ite {a b c : C} {x y z : Expr} {p : Pos} (ht : tst 20 x = true) (ha : Good E X a x) (hb : Good E X b y) (hc : Good E X c z) : Good E X (.ite a b c) (.IfExp x y z p) := by
  refine ⟨ev_eq (fun σ M => ?_) (den_ite (ha.pt 20 ht) hb.pe hc.pe), fun n hn => ?_, fun n hn hb => by cases hb⟩
  · simp only [ev, Res.bind_assoc] <;> rfl
  · cases n <;> cases hn
end
end Ev

set_option Elab.async false
set_option linter.all false
set_option maxRecDepth 100000
set_option maxHeartbeats 1000000
/-! Ev18: the check of expressions is sound. -/
namespace Ev
open PySem PySem.Spec PyProof.Rows L2
theorem slotsIn {sl : List Nat} {own : List (Str × Nat)} (h : (sl.all fun i => (own.map (·.2)).contains i) = true) : ∀ i ∈ sl, i ∈ own.map (·.2) := fun i hi => by
  have := List.all_eq_true.mp h i hi
  simpa using this
theorem po_of {E : En} {X : Cx} {c : CO} {e : Option Expr} (h : GoodO E X c e) : PO X e (tO (gx X) fun σ M => (evo E c σ M).bind optR) := by
  cases c with
  | none =>
    cases e with
    | none =>
      have : (fun (σ : St') (M : Mem) => (evo E .none σ M).bind optR) = fun _ M => (Res.ok none M).bind optR := by
        funext σ M; simp only [evo]
      rw [this]; exact den_ono
    | some e => exact h.elim
  | some a =>
    cases e with
    | none => exact h.elim
    | some e =>
      have : (fun (σ : St') (M : Mem) => (evo E (.some a) σ M).bind optR) = fun σ M => ((ev E a σ M).bind fun x M => .ok (some x) M).bind optR := by
        funext σ M; simp only [evo]
      rw [this]; exact den_osome h.pe
theorem pts_of {E : En} {X : Cx} {c : CO} {fs : List Expr} (h : match fs with
    | [] => GoodO E X c none
    | [e] => GoodO E X c (some e) ∧ tst 20 e = true
    | _ => False) : PTs X fs (tT (gx X) fun σ M => (evo E c σ M).bind fun r M => match r with
      | none => .ok true M
      | some x => truR x M) := by
  match fs, h with
  | [], h =>
    cases c with
    | some a => exact h.elim
    | none =>
      refine ⟨fun pins s σ H Q I q => pts_nil.run pins s σ H Q I ?_⟩
      obtain ⟨ρ, M, ds, rep, rs, q⟩ := q
      simp only [evo] at q
      exact q.here rep
  | [e], h =>
    cases c with
    | none => exact h.1.elim
    | some a =>
      have h1 : Good E X a e := h.1
      have h2 := h1.pt 20 h.2
      rw [tT_eq (f' := fun σ M => (evo E (.some a) σ M).bind fun r M => match r with
        | none => .ok true M
        | some x => truR x M) fun σ M => ?_] at h2
      · exact pts_one h2
      · simp only [evo, Res.bind_assoc, Res.bind_ok]
mutual
theorem ckE_ok {E : En} : ∀ (c : C) {S : Sx} {X : Cx} {e : Expr}, XOk S E X → ckE c S e = true → Good E X c e
  | .k d, S, X, e, ok, h => by
    simp only [ckE] at h
    refine .of (ev_eq (fun σ M => by simp only [ev]) (den_k ok h)) ?_
    revert h
    cases d <;> cases e <;> first | (intro h; rfl) | (intro h; cases h)
  | .var i, S, X, e, ok, h => by
    simp only [ckE] at h
    split at h
    · simp only [Bool.and_eq_true, decide_eq_true_eq] at h
      obtain ⟨⟨h1, h2⟩, h3⟩ := h
      exact .of (ev_eq (fun σ M => by simp only [ev] <;> rfl) (den_var (i := i) (by rw [ok.N]; exact h1) (by rw [ok.sc]; exact visC_ok h2) h3)) rfl
    · cases h
  | .glo x, S, X, e, ok, h => by
    simp only [ckE] at h
    split at h
    · simp only [Bool.and_eq_true, decide_eq_true_eq] at h
      obtain ⟨⟨⟨rfl, h2⟩, h3⟩, h4⟩ := h
      exact .of (ev_eq (fun σ M => by simp only [ev] <;> rfl) (den_glo ok (by simpa using h2) (glC_ok ok h3) h4)) rfl
    · cases h
  | .bin op a b, S, X, e, ok, h => by
    simp only [ckE] at h
    split at h
    · simp only [Bool.and_eq_true, decide_eq_true_eq] at h
      obtain ⟨⟨rfl, h2⟩, h3⟩ := h
      exact .of (ev_eq (fun σ M => by simp only [ev]) (den_bin (ckE_ok a ok h2).pe (ckE_ok b ok h3).pe)) rfl
    · cases h
  | .una op a, S, X, e, ok, h => by
    simp only [ckE] at h
    split at h
    · simp only [Bool.and_eq_true, decide_eq_true_eq] at h
      obtain ⟨⟨rfl, h2⟩, h3⟩ := h
      exact .of (ev_eq (fun σ M => by simp only [ev]) (den_una (ckE_ok a ok h3).pe)) (by cases op <;> first | rfl | exact (h2 rfl).elim)
    · cases h
  | .cmp op a b, S, X, e, ok, h => by
    simp only [ckE] at h
    split at h
    · simp only [Bool.and_eq_true, decide_eq_true_eq, Bool.not_eq_true'] at h
      obtain ⟨⟨⟨rfl, h2⟩, h3⟩, h4⟩ := h
      exact good_cmp ok.hu (ckE_ok a ok h2) (ckE_ok b ok h3) h4
    · cases h
  | .chn op op' a b c, S, X, e, ok, h => by
    simp only [ckE] at h
    split at h
    · simp only [Bool.and_eq_true, decide_eq_true_eq, Bool.not_eq_true'] at h
      obtain ⟨⟨⟨⟨⟨⟨rfl, rfl⟩, h2⟩, h3⟩, h4⟩, h5⟩, h6⟩ := h
      exact good_chn ok.hu (ckE_ok a ok h2) (ckE_ok b ok h3) (ckE_ok c ok h4) h5 h6
    · cases h
  | .and_ a b, S, X, e, ok, h => by
    simp only [ckE] at h
    split at h
    · simp only [Bool.and_eq_true] at h
      obtain ⟨h1, h2⟩ := h
      refine good_and (ckE_ok a ok h1) ?_
      split at h2
      · exact ckE_ok b ok h2
      · exact ckE_ok b ok h2
    · cases h
  | .or_ a b, S, X, e, ok, h => by
    simp only [ckE] at h
    split at h
    · simp only [Bool.and_eq_true] at h
      obtain ⟨h1, h2⟩ := h
      refine good_or (ckE_ok a ok h1) ?_
      split at h2
      · exact ckE_ok b ok h2
      · exact ckE_ok b ok h2
    · cases h
  | .not_ a, S, X, e, ok, h => by
    simp only [ckE] at h
    split at h
    · exact good_not (ckE_ok a ok h)
    · cases h
  | .ite t a b, S, X, e, ok, h => by
    simp only [ckE] at h
    split at h
    · simp only [Bool.and_eq_true] at h
      obtain ⟨⟨⟨h1, h2⟩, h3⟩, h4⟩ := h
      exact good_ite h1 (ckE_ok t ok h2) (ckE_ok a ok h3) (ckE_ok b ok h4)
    · cases h
  | .tup l, S, X, e, ok, h => by
    simp only [ckE] at h
    split at h
    · exact .of (ev_eq (fun σ M => by simp only [ev]) (den_tup (ckL_ok l ok h).pa)) rfl
    · cases h
  | .lst c l, S, X, e, ok, h => by
    simp only [ckE] at h
    split at h
    · exact .of (ev_eq (fun σ M => by simp only [ev]) (den_lst (k := c) (ckL_ok l ok h).pa)) rfl
    · cases h
  | .dnew c, S, X, e, ok, h => by
    simp only [ckE] at h
    split at h
    · exact .of (ev_eq (fun σ M => by simp only [ev]) (den_dnew (c := c))) rfl
    · cases h
  | .ddis c kvs, S, X, e, ok, h => by
    simp only [ckE] at h
    split at h
    · simp only [Bool.and_eq_true, decide_eq_true_eq] at h
      obtain ⟨⟨⟨h1, h2⟩, h3⟩, h4⟩ := h
      exact .of (ev_eq (fun σ M => by simp only [ev]) (den_ddis (c := c) h1 h2 h3 h4)) rfl
    · cases h
  | .idx a b, S, X, e, ok, h => by
    simp only [ckE] at h
    split at h
    · simp only [Bool.and_eq_true] at h
      obtain ⟨⟨h1, h2⟩, h3⟩ := h
      exact .of (ev_eq (fun σ M => by simp only [ev]) (den_idx ok.hu (ckE_ok a ok h2).pe (ckE_ok b ok h3).pe h1)) rfl
    · cases h
  | .sli a lo hi, S, X, e, ok, h => by
    simp only [ckE] at h
    split at h
    · simp only [Bool.and_eq_true] at h
      obtain ⟨⟨h1, h2⟩, h3⟩ := h
      exact .of (ev_eq (fun σ M => by simp only [ev]) (den_sli (ckE_ok a ok h1).pe (po_of (ckO_ok lo ok h2)) (po_of (ckO_ok hi ok h3)))) rfl
    · cases h
  | .rev a, S, X, e, ok, h => by
    simp only [ckE] at h
    split at h
    · simp only [Bool.and_eq_true] at h
      obtain ⟨h1, h2⟩ := h
      exact .of (ev_eq (fun σ M => by simp only [ev]) (den_rev h1 (ckE_ok a ok h2).pe)) rfl
    · cases h
  | .call x l k ord, S, X, e, ok, h => by
    simp only [ckE] at h
    split at h
    · rename_i y _ es kws _
      simp only [Bool.and_eq_true, decide_eq_true_eq] at h
      obtain ⟨⟨⟨⟨⟨⟨rfl, h2⟩, h3⟩, h4⟩, h5⟩, h6⟩, h7⟩ := h
      split at h7
      · rename_i fi hfi
        simp only [Bool.and_eq_true, decide_eq_true_eq] at h7
        have hl := ckL_ok l ok h4
        have hk := ckL_ok k ok h5
        refine .of (ev_eq (fun σ M => by simp only [ev] <;> rfl) (den_call ok hfi (glC_ok ok h2) hl.pa hk.pk (fun he ds M => ?_) (fun ds M d M' he => ?_) (fun ds M d M' he => ?_) hl.star h6 h7.1 h7.2 (ndbg_1 h3))) rfl
        · subst he
          cases hl
          simp only [evs]
        · rw [evs_len he, hl.len]
        · rw [evs_len he, hk.len, List.length_map]
      · cases h7
    · cases h
  | .cal i l, S, X, e, ok, h => by
    simp only [ckE] at h
    split at h
    · simp only [Bool.and_eq_true, decide_eq_true_eq] at h
      obtain ⟨⟨⟨h1, h2⟩, h3⟩, h4⟩ := h
      have hl := ckL_ok l ok h4
      exact .of (ev_eq (fun σ M => by simp only [ev] <;> rfl) (den_cal (i := i) ok (by rw [ok.N]; exact h1) (by rw [ok.sc]; exact visC_ok h2) hl.pa hl.star (ndbg_1 h3) (ndbg_2 h3))) rfl
    · cases h
  | .blt b l, S, X, e, ok, h => by
    simp only [ckE] at h
    split at h
    · simp only [Bool.and_eq_true, decide_eq_true_eq] at h
      obtain ⟨⟨⟨rfl, h2⟩, h3⟩, h4⟩ := h
      have hl := ckL_ok l ok h4
      obtain ⟨b1, b2, b3⟩ := bltNm_boot b
      exact .of (ev_eq (fun σ M => by simp only [ev]) (den_blt E b ok.calm ok.hu ok.gd (glC_ok ok h3) (ok.fr _ (by simpa using h2)) b1 hl.pa hl.star b2 b3)) rfl
    · cases h
  | .met m o l, S, X, e, ok, h => by
    simp only [ckE] at h
    split at h
    · simp only [Bool.and_eq_true, decide_eq_true_eq] at h
      obtain ⟨⟨⟨⟨⟨rfl, h2⟩, h3⟩, h4⟩, h5⟩, h6⟩ := h
      have hl := ckL_ok l ok h6
      exact .of (ev_eq (fun σ M => by simp only [ev]) (den_met ok.hu m (ckE_ok o ok h5).pe hl.pa h2 hl.star h3 h4)) rfl
    · cases h
  | .comp cell own t it ifs e, S, X, ex, ok, h => by
    simp only [ckE] at h
    split at h
    · rename_i elt tg it' fs as scope p
      simp only [Bool.and_eq_true, decide_eq_true_eq] at h
      obtain ⟨⟨⟨⟨⟨⟨⟨rfl, h2⟩, h3⟩, h4⟩, h5⟩, h6⟩, h7⟩, h8⟩ := h
      refine .of (ev_eq (fun σ M => by simp only [ev] <;> rfl) (den_comp (own := own) (sl := t.slots) (cell := cell) ok.calm ok.nd (ckI_ok it ok h2) (blkOk_by (by rw [ok.N, ok.sc]; exact h4)) (fun s H C cl fp => ckT_ok t ok.blk h5) (slotsIn h6) (fun s H C cl fp => pts_of ?_) (fun s H C cl fp => (ckE_ok e ok.blk h7).pe) h3)) rfl
      split at h8
      · exact ckO_ok ifs ok.blk h8
      · simp only [Bool.and_eq_true] at h8
        exact ⟨ckO_ok ifs ok.blk h8.1, h8.2⟩
      · cases h8
    · cases h
theorem ckL_ok {E : En} : ∀ (l : CL) {S : Sx} {X : Cx} {es : List Expr}, XOk S E X → ckL l S es = true → AllL E X l es
  | .nil, S, X, es, ok, h => by
    simp only [ckL] at h
    cases es with
    | nil => exact .nil
    | cons _ _ => cases h
  | .cons a l, S, X, es, ok, h => by
    simp only [ckL] at h
    split at h
    · simp only [Bool.and_eq_true] at h
      exact .cons (ckE_ok a ok h.1.2).pe h.1.1 (ckL_ok l ok h.2)
    · cases h
theorem ckO_ok {E : En} : ∀ (c : CO) {S : Sx} {X : Cx} {e : Option Expr}, XOk S E X → ckO c S e = true → GoodO E X c e
  | .none, S, X, e, ok, h => by
    simp only [ckO] at h
    cases e with
    | none => trivial
    | some _ => cases h
  | .some a, S, X, e, ok, h => by
    simp only [ckO] at h
    split at h
    · exact ckE_ok a ok h
    · cases h
theorem ckT_ok {E : En} : ∀ (t : T) {S : Sx} {X : Cx} {e : Expr}, XOk S E X → ckT t S e = true → PG X e (gT (gx X) t.slots (asT E t))
  | .var i, S, X, e, ok, h => by
    simp only [ckT] at h
    split at h
    · simp only [Bool.and_eq_true, decide_eq_true_eq] at h
      obtain ⟨l1, l2⟩ := locC_ok ok h.2
      have q : asT E (.var i) = fun d σ M => .ok (σ.set i (some d)) M := by funext d σ M; simp only [asT]
      rw [q]
      exact dg_var ok.nd (by rw [ok.N]; exact h.1) l1 l2
    · cases h
  | .tup l, S, X, e, ok, h => by
    simp only [ckT] at h
    split at h
    · have hl := ckTs_ok l ok h
      have q : asT E (.tup l) = fun d σ M => match d with
        | .tup ds => if ds.length = l.len then asTs E l ds σ M else .bad
        | .wtp ds => if ds.length = l.len then asTs E l ds σ M else .bad
        | _ => .bad := by funext d σ M; cases d <;> simp only [asT]
      rw [q]
      exact dg_tup ok.calm hl.pg hl.len hl.star
    · cases h
  | .sub a b, S, X, e, ok, h => by
    simp only [ckT] at h
    split at h
    · simp only [Bool.and_eq_true] at h
      have q : asT E (.sub a b) = fun d σ M => (ev E a σ M).bind fun o M => (ev E b σ M).bind fun i M => match setD o i d M with
        | some M => .ok σ M
        | none => .bad := by funext d σ M; simp only [asT] <;> rfl
      rw [q]
      exact dg_sub ok.hu (ckE_ok a ok h.1.2).pe (ckE_ok b ok h.2).pe h.1.1
    · cases h
theorem ckTs_ok {E : En} : ∀ (l : TL) {S : Sx} {X : Cx} {es : List Expr}, XOk S E X → ckTs l S es = true → AllT E X l es
  | .nil, S, X, es, ok, h => by
    simp only [ckTs] at h
    cases es with
    | nil => exact .nil
    | cons _ _ => cases h
  | .cons a l, S, X, es, ok, h => by
    simp only [ckTs] at h
    split at h
    · simp only [Bool.and_eq_true] at h
      exact .cons (ckT_ok a ok h.1.2) h.1.1 (ckTs_ok l ok h.2)
    · cases h
theorem ckI_ok {E : En} : ∀ (i : I) {S : Sx} {X : Cx} {tg e : Expr}, XOk S E X → ckI i S tg e = true → PI X tg e (iE (gx X) (evi E i))
  | .val a, S, X, tg, e, ok, h => by
    simp only [ckI] at h
    have q : evi E (.val a) = fun σ M => (ev E a σ M).bind fun x M => walkV x M := by funext σ M; simp only [evi]
    rw [q]
    exact di_val (ckE_ok a ok h).pe
  | .rng1 a, S, X, tg, e, ok, h => by
    simp only [ckI] at h
    split at h
    · simp only [Bool.and_eq_true, decide_eq_true_eq] at h
      obtain ⟨⟨⟨⟨rfl, h2⟩, h3⟩, h4⟩, h5⟩ := h
      have q : evi E (.rng1 a) = fun σ M => (ev E a σ M).bind fun x M => rng1V x M := by funext σ M; simp only [evi]
      rw [q]
      exact di_rng1 (glC_ok ok h3) (ok.fr _ (by simpa using h2)) (ckE_ok a ok h5).pe h4
    · cases h
  | .rng2 a b, S, X, tg, e, ok, h => by
    simp only [ckI] at h
    split at h
    · simp only [Bool.and_eq_true, decide_eq_true_eq] at h
      obtain ⟨⟨⟨⟨⟨⟨rfl, h2⟩, h3⟩, h4⟩, h5⟩, h6⟩, h7⟩ := h
      have q : evi E (.rng2 a b) = fun σ M => (ev E a σ M).bind fun x M => (ev E b σ M).bind fun y M => rng2V x y M := by funext σ M; simp only [evi]
      rw [q]
      exact di_rng2 (glC_ok ok h3) (ok.fr _ (by simpa using h2)) (ckE_ok a ok h6).pe (ckE_ok b ok h7).pe h4 h5
    · cases h
  | .zip a b, S, X, tg, e, ok, h => by
    simp only [ckI] at h
    split at h
    · split at h
      · simp only [Bool.and_eq_true, decide_eq_true_eq] at h
        obtain ⟨⟨⟨⟨⟨⟨rfl, h2⟩, h3⟩, h4⟩, h5⟩, h6⟩, h7⟩ := h
        have q : evi E (.zip a b) = fun σ M => (ev E a σ M).bind fun x M => (ev E b σ M).bind fun y M => zipV x y M := by funext σ M; simp only [evi]
        rw [q]
        exact di_zip (glC_ok ok h3) (ok.fr _ (by simpa using h2)) (ckE_ok a ok h6).pe (ckE_ok b ok h7).pe h4 h5
      · cases h
    · cases h
  | .enum a, S, X, tg, e, ok, h => by
    simp only [ckI] at h
    split at h
    · split at h
      · simp only [Bool.and_eq_true, decide_eq_true_eq] at h
        obtain ⟨⟨⟨⟨rfl, h2⟩, h3⟩, h4⟩, h5⟩ := h
        have q : evi E (.enum a) = fun σ M => (ev E a σ M).bind fun x M => enumV x M := by funext σ M; simp only [evi]
        rw [q]
        exact di_enum (glC_ok ok h3) (ok.fr _ (by simpa using h2)) (ckE_ok a ok h5).pe h4
      · cases h
    · cases h
end
end Ev

set_option Elab.async false
set_option linter.all false
set_option maxRecDepth 100000
set_option maxHeartbeats 1000000
/-! Ev19: the check of statements; it is sound. -/
namespace Ev
open PySem PySem.Spec PyProof.Rows L2
def isLoc (S : Sx) (i : Nat) (x : Str) : Bool := decide (S.N[i]? = some x) && (match S.sc.names.lookup x with
  | some .local => true
  | _ => false)
theorem isLoc_ok {S : Sx} {E : En} {X : Cx} (ok : XOk S E X) {i : Nat} {x : Str} (h : isLoc S i x = true) : X.N[i]? = some x ∧ X.env.scope.names.lookup x = some .local := by
  unfold isLoc at h
  rw [Bool.and_eq_true] at h
  refine ⟨by rw [ok.N]; exact of_decide_eq_true h.1, ?_⟩
  rw [ok.sc]
  have h2 := h.2
  split at h2
  · assumption
  · cases h2
/-- x = [..], on one line or not -/
def ckLc (S : Sx) (t : T) (e : C) (tg v : Expr) : Bool := match t, tg, v with
  | .var i, .Name y py, .ListComp _ _ scope p => ckE e S v && ckT t S tg && (!(py.line == p.line) || (isLoc S i y && !(scope.names.any fun q => q.1 == y && (q.2 == .local || q.2 == .cell))))
  | _, _, _ => false
mutual
def ckS : Ev.S → Sx → Stmt → Bool
  | .asg t e, S, st => match st with
    | .Assign [tg] v _ => if notComp v then notStar tg && ckT t S tg && ckE e S v && swNoS S.sc tg v else ckLc S t e tg v
    | _ => false
  | .par l e, S, st => match st with
    | .Assign [.Tuple ts _ _] (.Tuple vs _ _) _ => match l, ts, vs with
      | [i, j], [.Name x px, .Name y py], [a, b] => isLoc S i x && isLoc S j y && decide (i ≠ j) && decide (x ≠ y) && (py.line == px.line) && !([a, b].all (foldedForSure 8)) && !([a, b].all (constantsAlone 8)) && ckL e S [a, b]
      | [i, j, l], [.Name x px, .Name y py, .Name z pz], [a, b, c] => isLoc S i x && isLoc S j y && isLoc S l z && decide (i ≠ j) && decide (i ≠ l) && decide (j ≠ l) && decide (x ≠ y) && decide (x ≠ z) && decide (y ≠ z) && (py.line == px.line) && (pz.line == px.line) && !([a, b, c].all (foldedForSure 8)) && !([a, b, c].all (constantsAlone 8)) && ckL e S [a, b, c]
      | _, _, _ => false
    | _ => false
  | .ex e, S, st => match st with
    | .Expr v _ => notComp v && ckE e S v
    | _ => false
  | .ret e, S, st => match st with
    | .Return (some v) _ => ckE e S v
    | _ => false
  | .retN, S, st => match st with
    | .Return none _ => true
    | _ => false
  | .if_ c a b, S, st => match st with
    | .If t p q _ => tst 20 t && ckE c S t && ckSs a S p && ckSs b S q
    | _ => false
  | .for_ t it b, S, st => match st with
    | .For tg i body [] _ => notSet i && ckT t S tg && ckI it S tg i && ckSs b S body
    | _ => false
  | .whl c b, S, st => match st with
    | .While t body [] _ => tst 20 t && ckE c S t && ckSs b S body
    | _ => false
  | .pass, S, st => match st with
    | .Pass _ => true
    | _ => false
  | .brk, S, st => match st with
    | .Break _ => true
    | _ => false
  | .cnt, S, st => match st with
    | .Continue _ => true
    | _ => false
  | .never, S, st => true
def ckSs : SL → Sx → List Stmt → Bool
  | .nil, S, l => l.isEmpty
  | .cons s l, S, sts => match sts with
    | st :: sts => ckS s S st && ckSs l S sts
    | [] => false
end
section
variable {E : En} {X : Cx} {S : Sx}
theorem exS_eq {s : Ev.S} {f : St' → Mem → Res Flow'} {st : Stmt} (hf : ∀ σ M, exS E s σ M = f σ M) (h : PS X st (tS (gx X) f)) : PS X st (tS (gx X) (exS E s)) := by
  have q : exS E s = f := funext fun σ => funext fun M => hf σ M
  rw [q]; exact h
theorem exs_eq {s : SL} {f : St' → Mem → Res Flow'} {st : List Stmt} (hf : ∀ σ M, exs E s σ M = f σ M) (h : PSs X st (tS (gx X) f)) : PSs X st (tS (gx X) (exs E s)) := by
  have q : exs E s = f := funext fun σ => funext fun M => hf σ M
  rw [q]; exact h
theorem lc_ok (ok : XOk S E X) (hk : X.env.scope.kind = .function) {t : T} {e : C} {tg v : Expr} {pos : Pos} (h : ckLc S t e tg v = true) : PS X (.Assign [tg] v pos) (tS (gx X) (exS E (.asg t e))) := by
  unfold ckLc at h
  split at h
  · rename_i i y py elt gens scope p
    simp only [Bool.and_eq_true, Bool.or_eq_true] at h
    obtain ⟨⟨h1, h2⟩, h3⟩ := h
    by_cases hl : (py.line == p.line) = true
    · -- the same line
      have h3' : isLoc S i y = true ∧ (scope.names.any fun q => q.1 == y && (q.2 == .local || q.2 == .cell)) = false := by
        rcases h3 with h3 | h3
        · rw [hl] at h3; cases h3
        · simpa using h3
      obtain ⟨n1, n2⟩ := isLoc_ok ok h3'.1
      -- the parts of the comprehension
      cases e <;> simp only [ckE] at h1 <;> try (cases h1; done)
      case k d => exfalso; revert h1; cases d <;> (intro h1; cases h1)
      case comp cell own t' it ifs e' =>
        split at h1
        · rename_i elt tg' it' fs as scope' p' heq
          cases heq
          simp only [Bool.and_eq_true, decide_eq_true_eq] at h1
          obtain ⟨⟨⟨⟨⟨⟨⟨rfl, c2⟩, c3⟩, c4⟩, c5⟩, c6⟩, c7⟩, c8⟩ := h1
          refine exS_eq (fun σ M => ?_) (ds_setLc (own := own) (sl := t'.slots) (cell := cell) ok.calm ok.nd hk n1 n2 (by simpa using hl) h3'.2 (ckI_ok it ok c2) (blkOk_by (by rw [ok.N, ok.sc]; exact c4)) (fun s H C cl fp => ckT_ok t' ok.blk c5) (slotsIn c6) (fun s H C cl fp => pts_of (E := E) (c := ifs) ?_) (fun s H C cl fp => (ckE_ok e' ok.blk c7).pe) c3)
          · simp only [exS, ev, asT, Res.bind_ok] <;> rfl
          · split at c8
            · exact ckO_ok ifs ok.blk c8
            · simp only [Bool.and_eq_true] at c8
              exact ⟨ckO_ok ifs ok.blk c8.1, c8.2⟩
            · cases c8
        · cases h1
    · refine exS_eq (fun σ M => by simp only [exS]) (ds_asg (ckE_ok e ok h1).pe (ckT_ok _ ok h2) ?_ rfl rfl)
      have hb := blockKind_of hk
      have hq : (py.line == p.line) = false := by simpa using hl
      show (pure (X.env.blockKind == .function && X.env.kindOf y == some .local && (py.line == p.line) && !(scope.names.any fun (n, k) => n == y && (k == .local || k == .cell))) : Sem Bool) = _
      rw [hq]; simp
  · cases h
end
mutual
theorem ckS_ok {E : En} : ∀ (s : Ev.S) {S : Sx} {X : Cx} {st : Stmt}, XOk S E X → X.env.scope.kind = .function → ckS s S st = true → PS X st (tS (gx X) (exS E s))
  | .asg t e, S, X, st, ok, hk, h => by
    simp only [ckS] at h
    split at h
    · split at h
      · rename_i hn
        simp only [Bool.and_eq_true] at h
        obtain ⟨⟨⟨h1, h2⟩, h3⟩, h4⟩ := h
        exact exS_eq (fun σ M => by simp only [exS]) (ds_asg (ckE_ok e ok h3).pe (ckT_ok t ok h2) (swaps_no hn) (swNoS_ok hk (by rw [ok.sc]; exact h4)) h1)
      · exact lc_ok ok hk h
    · cases h
  | .par l e, S, X, st, ok, hk, h => by
    simp only [ckS] at h
    split at h
    · split at h
      · simp only [Bool.and_eq_true, decide_eq_true_eq, Bool.not_eq_true', beq_iff_eq] at h
        obtain ⟨⟨⟨⟨⟨⟨⟨h1, h2⟩, h3⟩, h4⟩, h5⟩, h6⟩, h7⟩, h8⟩ := h
        obtain ⟨i1, i2⟩ := isLoc_ok ok h1
        obtain ⟨j1, j2⟩ := isLoc_ok ok h2
        have hl := ckL_ok e ok h8
        exact exS_eq (fun σ M => by simp only [exS]) (ds_par2 ok.calm hk ok.nd i1 j1 h3 i2 j2 h5 h4 hl.star h6 h7 hl.pa fun ds M d M' he => by rw [evs_len he, hl.len]; rfl)
      · simp only [Bool.and_eq_true, decide_eq_true_eq, Bool.not_eq_true', beq_iff_eq] at h
        obtain ⟨⟨⟨⟨⟨⟨⟨⟨⟨⟨⟨⟨⟨h1, h2⟩, h3⟩, a1⟩, a2⟩, a3⟩, b1⟩, b2⟩, b3⟩, c1⟩, c2⟩, h6⟩, h7⟩, h8⟩ := h
        obtain ⟨i1, i2⟩ := isLoc_ok ok h1
        obtain ⟨j1, j2⟩ := isLoc_ok ok h2
        obtain ⟨k1, k2⟩ := isLoc_ok ok h3
        have hl := ckL_ok e ok h8
        exact exS_eq (fun σ M => by simp only [exS]) (ds_par3 ok.calm hk ok.nd i1 j1 k1 a1 a2 a3 i2 j2 k2 c1 c2 b1 b2 b3 hl.star h6 h7 hl.pa fun ds M d M' he => by rw [evs_len he, hl.len]; rfl)
      · cases h
    · cases h
  | .ex e, S, X, st, ok, hk, h => by
    simp only [ckS] at h
    split at h
    · simp only [Bool.and_eq_true] at h
      exact exS_eq (fun σ M => by simp only [exS]) (ds_ex (ckE_ok e ok h.2).pe h.1)
    · cases h
  | .ret e, S, X, st, ok, hk, h => by
    simp only [ckS] at h
    split at h
    · exact exS_eq (fun σ M => by simp only [exS]) (ds_ret (ckE_ok e ok h).pe)
    · cases h
  | .retN, S, X, st, ok, hk, h => by
    simp only [ckS] at h
    split at h
    · exact exS_eq (fun σ M => by simp only [exS]) ds_retN
    · cases h
  | .if_ c a b, S, X, st, ok, hk, h => by
    simp only [ckS] at h
    split at h
    · simp only [Bool.and_eq_true] at h
      obtain ⟨⟨⟨h1, h2⟩, h3⟩, h4⟩ := h
      exact exS_eq (fun σ M => by simp only [exS]) (ds_if ((ckE_ok c ok h2).pt 20 h1) (ckSs_ok a ok hk h3) (ckSs_ok b ok hk h4))
    · cases h
  | .for_ t it b, S, X, st, ok, hk, h => by
    simp only [ckS] at h
    split at h
    · simp only [Bool.and_eq_true] at h
      obtain ⟨⟨⟨h1, h2⟩, h3⟩, h4⟩ := h
      exact exS_eq (fun σ M => by simp only [exS]) (ds_for ok.xe ok.calm (ckI_ok it ok h3) (ckT_ok t ok h2) (ckSs_ok b ok hk h4) h1)
    · cases h
  | .whl c b, S, X, st, ok, hk, h => by
    simp only [ckS] at h
    split at h
    · simp only [Bool.and_eq_true] at h
      obtain ⟨⟨h1, h2⟩, h3⟩ := h
      exact exS_eq (fun σ M => by simp only [exS]) (ds_whl ok.xe ((ckE_ok c ok h2).pt 20 h1) (ckSs_ok b ok hk h3) FUEL)
    · cases h
  | .pass, S, X, st, ok, hk, h => by
    simp only [ckS] at h
    split at h
    · exact exS_eq (fun σ M => by simp only [exS]) ds_pass
    · cases h
  | .brk, S, X, st, ok, hk, h => by
    simp only [ckS] at h
    split at h
    · exact exS_eq (fun σ M => by simp only [exS]) ds_brk
    · cases h
  | .cnt, S, X, st, ok, hk, h => by
    simp only [ckS] at h
    split at h
    · exact exS_eq (fun σ M => by simp only [exS]) ds_cnt
    · cases h
  | .never, S, X, st, ok, hk, h => exS_eq (fun σ M => by simp only [exS]) ds_never
theorem ckSs_ok {E : En} : ∀ (l : SL) {S : Sx} {X : Cx} {sts : List Stmt}, XOk S E X → X.env.scope.kind = .function → ckSs l S sts = true → PSs X sts (tS (gx X) (exs E l))
  | .nil, S, X, sts, ok, hk, h => by
    simp only [ckSs] at h
    cases sts with
    | nil => exact exs_eq (fun σ M => by simp only [exs]) ds_nil
    | cons _ _ => cases h
  | .cons s l, S, X, sts, ok, hk, h => by
    simp only [ckSs] at h
    split at h
    · simp only [Bool.and_eq_true] at h
      exact exs_eq (fun σ M => by simp only [exs]) (ds_cons (ckS_ok s ok hk h.1) (ckSs_ok l ok hk h.2))
    · cases h
end
end Ev

set_option Elab.async false
set_option linter.all false
set_option maxRecDepth 100000
set_option maxHeartbeats 1000000
/-! Ev20: defs of a program; what their calls compute. -/
namespace Ev
open PySem PySem.Spec PyProof.Rows L2
inductive Mode where
  | drop | freeze | keep
  deriving DecidableEq
structure FnD where
  ps : List Str
  dfl : List D
  N : List Str
  body : SL
  mode : Mode
structure Prg where
  G : Str → Option D
  fns : List (Str × FnD)
  cs : List Str
  fr : List Str
def Prg.dfl (P : Prg) (x : Str) : List D := match P.fns.lookup x with
  | some f => f.dfl
  | none => []
def Prg.en (P : Prg) (call : D → List D → Mem → Res D) : En := ⟨P.G, P.dfl, call⟩
def start' (N : List Str) (as : List D) : St' := as.map some ++ List.replicate (N.length - as.length) none
/-- a value leaves a call: the cells that were made there are given up, or kept -/
def leave (mode : Mode) (m : Nat) (d : D) (M : Mem) : Res D := match mode with
  | .keep => .ok d M
  | .drop => if d.und m then .ok d (M.take m) else .bad
  | .freeze => match d with
    | .obj n => match M[n]? with
      | some (.lst l) => if decide (m ≤ n) && unds m l then .ok (.lst l) (M.take m) else .bad
      | some (.dct l) => if decide (m ≤ n) && unde m l then .ok (.dct l) (M.take m) else .bad
      | none => .bad
    | d => if d.und m then .ok d (M.take m) else .bad
def finish (mode : Mode) (m : Nat) (r : Res Flow') : Res D := r.bind fun k M => match k with
  | .ret d => leave mode m d M
  | .next _ => leave mode m .non M
  | _ => .bad
noncomputable def run (P : Prg) : Nat → D → List D → Mem → Res D
  | 0, _, _, _ => .bad
  | n + 1, d, as, M => match d with
    | .fn x => match P.fns.lookup x with
      | some f => if as.length = f.ps.length then finish f.mode M.length (exs (P.en (run P n)) f.body (start' f.N as) M) else .bad
      | none => .bad
    | _ => .bad

/-! ### giving up cells -/
mutual
theorem D.und_mono {m n : Nat} (h : n ≤ m) : ∀ {d : D}, d.und n = true → d.und m = true
  | .non, _ => rfl
  | .bl _, _ => rfl
  | .int _, _ => rfl
  | .str _, _ => rfl
  | .tup l, k => by simp only [D.und] at *; exact unds_mono h k
  | .wtp l, k => by simp only [D.und] at *; exact unds_mono h k
  | .lst l, k => by simp only [D.und] at *; exact unds_mono h k
  | .rol l, k => by simp only [D.und] at *; exact unds_mono h k
  | .dct l, k => by simp only [D.und] at *; exact unde_mono h k
  | .obj j, k => by simp only [D.und, decide_eq_true_eq] at *; omega
  | .fn _, _ => rfl
  | .ty _, _ => rfl
theorem unds_mono {m n : Nat} (h : n ≤ m) : ∀ {l : List D}, unds n l = true → unds m l = true
  | [], _ => rfl
  | d :: r, k => by simp only [unds, Bool.and_eq_true] at *; exact ⟨D.und_mono h k.1, unds_mono h k.2⟩
theorem unde_mono {m n : Nat} (h : n ≤ m) : ∀ {l : List (D × D)}, unde n l = true → unde m l = true
  | [], _ => rfl
  | (a, b) :: r, k => by simp only [unde, Bool.and_eq_true] at *; exact ⟨⟨D.und_mono h k.1.1, D.und_mono h k.1.2⟩, unde_mono h k.2⟩
end
section
variable {g : Gx} {ρ ρ' : Rho} {H H' : Hp} {M M' : Mem}
theorem CellOk.shrink {a : Addr} {c : Cell} (m : Nat) (h : CellOk g ρ H a c) (u : c.und m = true) : CellOk g (ρ.cut m) H a c := by
  cases c with
  | lst ds => obtain ⟨vs, h, r⟩ := h; exact ⟨vs, h, r.shrink m u⟩
  | dct kvs => obtain ⟨o, es, ep, h, z, a, b, c, r⟩ := h; exact ⟨o, es, ep, h, z, a, b, c, r.shrink m u⟩
theorem Rep.cut (r : Rep g ρ M H) (m : Nat) : Rep g (ρ.cut m) (M.take m) H := by
  refine ⟨by simp [Rho.cut, r.len], r.nd.sublist (List.take_sublist _ _), fun n a c h1 h2 => ?_, fun a ha => ⟨fun q => (r.gh a ha).1 (List.mem_of_mem_take q), (r.gh a ha).2⟩, fun n c h2 => ?_⟩
  · have hn : n < m := by
      have := (List.getElem?_eq_some_iff.mp h2).1
      simp at this; omega
    have h1 : (ρ.c.take m)[n]? = some a := h1
    rw [List.getElem?_take_of_lt hn] at h1 h2
    refine (r.cell n a c h1 h2).shrink m ?_
    have := r.un n c h2
    cases c with
    | lst l => exact unds_mono (Nat.le_of_lt hn) this
    | dct l => exact unde_mono (Nat.le_of_lt hn) this
  · have hn : n < m := by
      have := (List.getElem?_eq_some_iff.mp h2).1
      simp at this; omega
    rw [List.getElem?_take_of_lt hn] at h2
    exact r.un n c h2
theorem Ext.cut (e : Ext ρ H ρ' H') (m : Nat) (h : m = ρ.c.length) : Ext ρ H (ρ'.cut m) H' := by
  refine ⟨⟨fun a o h1 h2 => ⟨(e.keep a o h1 h2).1, fun q => (e.keep a o h1 h2).2 ?_⟩, ?_⟩, e.gh, e.gk⟩
  · rcases q with q | q
    · exact .inl (List.mem_of_mem_take q)
    · exact .inr q
  · obtain ⟨t, ht⟩ := e.pre
    refine ⟨[], ?_⟩
    show ρ.c ++ [] = ρ'.c.take m
    rw [← ht, h, List.append_nil, List.take_left']
    rfl
theorem leave_ok {mode : Mode} {m : Nat} {d : D} {Q : VK} {v : V} (hm : m = ρ.c.length) (e : Ext ρ H ρ' H') (r : Rep g ρ' M' H') (rd : RD g ρ' H' d v) (h : Post g ρ H (leave mode m d M') (QV g Q)) : Q v H' := by
  have drop : ∀ {d : D}, RD g ρ' H' d v → Post g ρ H (if d.und m then .ok d (M'.take m) else .bad) (QV g Q) → Q v H' := by
    intro d rd h
    split at h
    · rename_i hu
      exact h _ _ (e.cut m hm) (r.cut m) v (rd.shrink m hu)
    · exact h.no.elim
  cases mode with
  | keep => exact h _ _ e r v rd
  | drop => exact drop rd h
  | freeze =>
    unfold leave at h
    dsimp only at h
    split at h
    · cases rd with
      | @obj n a ha =>
        rename_i n0
        have out : m ≤ n0 → a ∉ ρ'.cut m := fun le q => by
          rcases q with q | q
          · obtain ⟨i, hi⟩ := List.mem_iff_getElem?.mp q
            have hi : (ρ'.c.take m)[i]? = some a := hi
            have him : i < m := by
              have := (List.getElem?_eq_some_iff.mp hi).1
              simp at this; omega
            rw [List.getElem?_take_of_lt him] at hi
            have e1 := (List.getElem?_eq_some_iff.mp hi).2
            have e2 := (List.getElem?_eq_some_iff.mp ha).2
            have := (List.getElem_inj r.nd).mp (e1.trans e2.symm)
            omega
          · exact (r.gh a q).1 (List.mem_of_getElem? ha)
        split at h
        · rename_i l hl
          split at h
          · rename_i hu
            simp only [Bool.and_eq_true, decide_eq_true_eq] at hu
            obtain ⟨vs, h1, q⟩ := r.cell _ _ _ ha hl
            exact h _ _ (e.cut m hm) (r.cut m) _ (.lst (out hu.1) h1 (q.shrink m hu.2))
          · exact h.no.elim
        · rename_i l hl
          split at h
          · rename_i hu
            simp only [Bool.and_eq_true, decide_eq_true_eq] at hu
            obtain ⟨o, es, ep, h1, z, a1, b1, c1, q⟩ := r.cell _ _ _ ha hl
            exact h _ _ (e.cut m hm) (r.cut m) _ (.dct (.inl ⟨out hu.1, h1⟩) z a1 b1 c1 (q.shrink m hu.2))
          · exact h.no.elim
        · exact h.no.elim
    · exact drop rd h
theorem RDs.paired : ∀ {ds : List D} {vs : List V}, RDs g ρ H ds vs → Paired (RD g ρ H) ds vs
  | _, _, .nil => .nil
  | _, _, .cons a b => .cons a b.paired
theorem RDs.of_paired : ∀ {ds : List D} {vs : List V}, Paired (RD g ρ H) ds vs → RDs g ρ H ds vs
  | _, _, .nil => .nil
  | _, _, .cons a b => .cons a (RDs.of_paired b)
theorem RS.start {as : List D} {vs : List V} (h : RDs g ρ H as vs) (N : List Str) : RS g ρ H (start' N as) (L2.start N vs) := by
  have hl := h.length
  unfold start' L2.start
  rw [hl]
  have rep : ∀ n : Nat, Paired (RO g ρ H) (List.replicate n none) (List.replicate n none) := fun n => by
    induction n with
    | zero => exact .nil
    | succ n ih => exact .cons trivial ih
  have app : ∀ {as : List D} {vs : List V} {l : St'} {r : L2.St}, RDs g ρ H as vs → Paired (RO g ρ H) l r → Paired (RO g ρ H) (as.map some ++ l) (vs.map some ++ r) := by
    intro as vs l r h k
    induction as generalizing vs with
    | nil => cases h; exact k
    | cons a as ih => cases h with | cons p q => exact .cons p (ih q)
  exact app h (rep _)
end
end Ev

set_option Elab.async false
set_option linter.all false
set_option maxRecDepth 100000
set_option maxHeartbeats 1000000
/-! Ev21: every call of a checked program computes what run says. -/
namespace Ev
open PySem PySem.Spec PyProof.Rows L2
def Prg.fis (P : Prg) : List (Str × FI) := P.fns.map fun p => (p.1, ⟨p.2.ps, p.2.dfl⟩)
theorem Prg.fis_at {P : Prg} {x : Str} : P.fis.lookup x = (P.fns.lookup x).map fun f => ⟨f.ps, f.dfl⟩ := by
  unfold Prg.fis
  induction P.fns with
  | nil => rfl
  | cons p l ih =>
    obtain ⟨a, f⟩ := p
    rw [List.map_cons, List.lookup_cons, List.lookup_cons]
    cases x == a with
    | true => rfl
    | false => exact ih
def cellsOf (sc : Scope) : List Str := (sc.names.filter fun q => q.2 == .cell).map (·.1)
def Prg.sx (P : Prg) (f : FnD) (sc : Scope) : Sx := ⟨f.N, sc, P.fis, P.cs, P.fr, cellsOf sc⟩
/-- a def of the program, as K holds it, and its core text -/
structure FnK (g : Gx) (P : Prg) (x : Str) (f : FnD) : Prop where
  ex : ∃ (fa : Addr) (nm qual : Str) (as : List Arg) (xs : List Expr) (body : List Stmt) (scope : Scope) (dvs : List V) (fd : FuncData),
    g.mg x = some (.ref fa) ∧ FunD g.K nm qual ⟨[], as, none, [], [], none, xs⟩ body scope dvs [] fa fd ∧ FnScope f.N f.ps scope ∧ as.map (·.arg) = f.ps ∧ (∀ ρ H, RDs g ρ H f.dfl dvs) ∧ f.dfl.length ≤ f.ps.length ∧
    ckSs f.body (P.sx f scope) body = true
structure PrgOk (g : Gx) (P : Prg) : Prop where
  fn : ∀ x f, P.fns.lookup x = some f → FnK g P x f
  cs : ∀ x ∈ P.cs, ∃ d u v, P.G x = some d ∧ g.mg x = some u ∧ RelV v u ∧ ∀ ρ H, RD g ρ H d v
  fr : ∀ x ∈ P.fr, g.mg x = none
theorem psNd_of {N ps : List Str} {sc : Scope} (S : FnScope N ps sc) : ps.Nodup := by
  rw [← S.pre]; exact S.nd.sublist (List.take_sublist _ _)
theorem run_no {P : Prg} {n : Nat} {x : Str} {as : List D} {M : Mem} (h : P.fns.lookup x = none) : run P n (.fn x) as M = .bad := by
  cases n with
  | zero => rfl
  | succ n => simp only [run, h]
theorem run_len {P : Prg} {n : Nat} {x : Str} {f : FnD} {as : List D} {M : Mem} (h : P.fns.lookup x = some f) (hl : as.length ≠ f.ps.length) : run P n (.fn x) as M = .bad := by
  cases n with
  | zero => rfl
  | succ n => simp only [run, h]; rw [if_neg hl]
theorem run_isfn {P : Prg} {n : Nat} {d : D} {as : List D} {M : Mem} (h : ∀ x, d ≠ .fn x) : run P n d as M = .bad := by
  cases n with
  | zero => rfl
  | succ n =>
    unfold run
    split
    · exact (h _ rfl).elim
    · rfl
theorem vals_paired {α : Type} {R : α → V → Prop} {S : α → Value → Prop} (h : ∀ a v u, R a v → RelV v u → S a u) : ∀ {as : List α} {vs : List V} {us : List Value}, Paired R as vs → Vals vs us → Paired S as us
  | _, _, _, .nil, .nil => .nil
  | _, _, _, .cons a b, .cons c d => .cons (h _ _ _ a c) (vals_paired h b d)
/-- the defaults' values, and how arguments come to the parameters -/
theorem dfl_bind {K : PySem.W.Frag} {s : Shared} {fd : FuncData} {as : List Arg} {xs : List Expr} {ps : List Str} {dvs : List V} (KX : K.In s.heap) (hp : fd.params = ⟨[], as, none, [], [], none, xs⟩) (ha : as.map (·.arg) = ps) (hd : DflV K fd.defaults dvs) :
    ∃ ds : List Value, Vals dvs ds ∧ ∀ (ks : List Str) (us ws fin : List Value), ks.length = ws.length → bindOk ps ks us.length ds.length = true → bindP ps ks us ws ds = some fin → BindsTo s fd ⟨us, ks.zip ws⟩ (ps.zip fin) := by
  rcases hd with ⟨rfl, hn⟩ | ⟨_, T, o, its, n, hT, lT, oT, hv⟩
  · refine ⟨[], .nil, fun ks us ws fin hk ok e => ?_⟩
    obtain ⟨k, h1, h2⟩ := bind_pure (r := none) hp ha rfl hk ok e
    refine .of_eq ?_
    rw [h1, hn]
    exact h2
  · refine ⟨its, hv, fun ks us ws fin hk ok e => ?_⟩
    obtain ⟨k, h1, h2⟩ := bind_pure (r := some its.toArray) hp ha (by simp) hk ok e
    exact .of_defaults hT (KX _ _ lT) oT h1 h2
theorem calls_ok {g : Gx} {base : Heap} {P : Prg} (ok : PrgOk g P) : ∀ (n : Nat) (A : Around), Room n A → A.guards = some [] → CallsOk g base A P.fis (P.en (run P n))
  | 0, A, hr, hg => fun x fi f hx hm outer s H ρ M ks us ws vs zs as bs l Q E' e0 rep r1 r2 q1 q2 hk hb hl hp => hp.elim
  | n + 1, A, hr, hg => fun x fi f hx hm outer s H ρ M ks us ws vs zs as bs l Q E' e0 rep r1 r2 q1 q2 hk hb hl hp => by
    rw [Prg.fis_at] at hx
    cases hf : P.fns.lookup x with
    | none => rw [hf] at hx; cases hx
    | some d =>
      rw [hf] at hx; cases hx
      obtain ⟨fa, nm, qual, pas, xs, body, scope, dvs, fd, m1, F, S, ha, hdf, hdl, hck⟩ := (ok.fn x d hf).ex
      rw [hm] at m1; cases m1
      obtain ⟨oc, od, dV, kV, doc, pm, an, cdv, ct, osl, rfl, lk, hcd, hdV, _⟩ := F.ex
      have KX : g.K.In s.heap := e0.mod.kin.keeps fun b o e => (e0.bs b o e).1
      have lim : s.heap.NoLimit := e0.mod.nolimit.keeps fun b o e => (e0.bs b o e).1
      obtain ⟨ds, hds, hbind⟩ := dfl_bind (s := s) (fd := PySem.W.fnOf nm qual ⟨[], pas, none, [], [], none, xs⟩ body scope dV kV doc pm an cdv ct) KX rfl ha hdV
      -- from the values' texts to the values
      have p1 := vals_paired (S := fun a u => ∃ v, RD g ρ H a v ∧ RelV v u) (fun a v u h k => ⟨v, h, k⟩) q1.paired r1
      have p2 := vals_paired (S := fun a u => ∃ v, RD g ρ H a v ∧ RelV v u) (fun a v u h k => ⟨v, h, k⟩) q2.paired r2
      have p3 := vals_paired (S := fun a u => ∃ v, RD g ρ H a v ∧ RelV v u) (fun a v u h k => ⟨v, h, k⟩) (hdf ρ H).paired hds
      obtain ⟨fin, hfin, hlf⟩ := bindP_rel p1 p2 p3 hl
      obtain ⟨vl, hvl, hvf⟩ : ∃ vl : List V, RDs g ρ H l vl ∧ Vals vl fin := by
        clear hfin hl hp
        induction hlf with
        | nil => exact ⟨[], .nil, .nil⟩
        | cons h _ ih =>
          obtain ⟨v, h1, h2⟩ := h
          obtain ⟨vl, i1, i2⟩ := ih
          exact ⟨v :: vl, .cons h1 i1, .cons h2 i2⟩
      -- the body
      simp only [Prg.en, run, hf] at hp
      have hlen : l.length = d.ps.length := by
        by_cases q : l.length = d.ps.length
        · exact q
        · rw [if_neg q] at hp; exact hp.elim
      rw [if_pos hlen] at hp
      have hvlen : vl.length = d.ps.length := hvl.length.symm.trans hlen
      have hkind : ∀ y ∈ d.ps.zip fin, scope.names.lookup y.1 = some .local ∨ (scope.names.lookup y.1 = some .cell ∧ ((cellsFrom (s.heap.objs.size + 1) scope.names []).lookup y.1).isSome = true) := by
        rintro ⟨a, u⟩ hy
        rcases S.par a (List.of_mem_zip hy).1 with q | q
        · exact .inl q
        · exact .inr ⟨q, PySem.W.cellsFrom_some _ _ _ (.inl q)⟩
      have hdsl : ds.length = d.dfl.length := by rw [← hds.length, ← (hdf ρ H).length]
      refine codeAny_call_function hr.depth (KX _ _ lk) rfl S.co S.gen rfl (PySem.W.codeRec_of KX hcd) (hbind ks us ws fin hk (by rw [hdsl]; exact hb) hfin _ _ _ _ ?_)
      refine wpAny_newFunctionEnv_cells S.kind hkind fun env he s1 y => ?_
      subst he
      refine ⟨lim.keeps y.toInCall.keep, codeAny_func ?_⟩
      let X : Cx := cxOf CX0 g.P g.w g.K g.mg base d.N qual scope f cdv A outer s H E'
      have I : Inv X [] (L2.start d.N vl) H s1 := inv_start S hr.hd e0 hvlen hvf y
      have hrn : Room n X.A := hr.deeper _
      have xok : XOk (P.sx d scope) (P.en (run P n)) X.nox := {
        N := rfl
        sc := rfl
        nd := S.nd
        calm := rfl
        fn := fun _ _ => rfl
        xe := PassesOwn.never
        hu := hrn.units
        gd := hg
        cs := ok.cs
        fr := ok.fr
        ft := fun y fi hy => by
          have hy : P.fis.lookup y = some fi := hy
          rw [Prg.fis_at] at hy
          cases e : P.fns.lookup y with
          | none => rw [e] at hy; cases hy
          | some d' =>
            rw [e] at hy; cases hy
            obtain ⟨fa', nm', qual', pas', xs', body', scope', dvs', fd', m1', F', S', ha', hdf', hdl', hck'⟩ := (ok.fn y d' e).ex
            refine ⟨fa', m1', F'.kp, ?_, psNd_of S', hdl'⟩
            show P.dfl y = d'.dfl
            unfold Prg.dfl; rw [e]
        no := fun y as M hy => by
          have hy : P.fis.lookup y = none := hy
          rw [Prg.fis_at] at hy
          cases e : P.fns.lookup y with
          | none => exact run_no e
          | some d' => rw [e] at hy; cases hy
        len := fun y fi as M hy hl => by
          have hy : P.fis.lookup y = some fi := hy
          rw [Prg.fis_at] at hy
          cases e : P.fns.lookup y with
          | none => rw [e] at hy; cases hy
          | some d' => rw [e] at hy; cases hy; exact run_len e hl
        isfn := fun d' as M h => run_isfn h
        cl := calls_ok ok n _ hrn hg }
      have hps : PSs X body (tS g (exs (P.en (run P n)) d.body)) := (ckSs_ok d.body xok S.kind hck).nox
      refine wpAny_mono (hps.run [] s1 (L2.start d.N vl) H { nx := fun _ H' => Q .non H', rt := Q } I ⟨ρ, M, start' d.N l, rep, RS.start hvl d.N, ?_⟩) (fun fl s' hs => ?_) fun e s' hs => hs
      · show Post g ρ H (exs ⟨P.G, P.dfl, run P n⟩ d.body (start' d.N l) M) _
        revert hp
        unfold finish
        cases exs ⟨P.G, P.dfl, run P n⟩ d.body (start' d.N l) M with
        | exc _ _ => exact fun hp => hp
        | bad => exact fun hp => hp
        | ok k M1 =>
          intro hp ρ1 H1 e1 rp1
          cases k with
          | ret d1 => exact fun v rv => leave_ok rep.len.symm e1 rp1 rv hp
          | next d1 => exact fun _ _ => leave_ok rep.len.symm e1 rp1 .non hp
          | brk _ => exact hp.no.elim
          | cnt _ => exact hp.no.elim
      · have fin : ∀ {σ' : L2.St} {H' : Hp} {v : V} {u : Value}, Inv X [] σ' H' s' → RelV v u → Q v H' → CE outer g.P g.w H s Q u s' :=
          fun {σ' H' v u} J rv q => ⟨v, H', J.os, J.bare, J.base, J.hok, rv, q⟩
        cases fl with
        | ret u =>
          obtain ⟨v, σ', H', J, rv, q⟩ := hs
          exact fin J rv q
        | next =>
          obtain ⟨σ', H', J, q⟩ := hs
          exact fin (v := V.non) (u := Value.none) J rfl q
        | brk => obtain ⟨_, _, _, q⟩ := hs; exact False.elim q
        | cont => obtain ⟨_, _, _, q⟩ := hs; exact False.elim q
end Ev

set_option Elab.async false
set_option linter.all false
set_option maxRecDepth 100000
set_option maxHeartbeats 1000000
/-! Ev22: a program's facts, read from what stands behind the top. -/
namespace Ev
open PySem PySem.Spec PyProof.Rows L2
def dOkC (kvs : List (D × D)) : Bool := (kvs.all (fun p => p.1.leaf) || kvs.all (fun p => p.1.tk)) && decide (kvs.map fun p => p.1.nk).Nodup
theorem dOkC_ok {kvs : List (D × D)} (h : dOkC kvs = true) : DOk kvs := by
  unfold dOkC at h
  simp only [Bool.and_eq_true, Bool.or_eq_true, List.all_eq_true, decide_eq_true_eq] at h
  exact ⟨h.1.imp (fun q p hp => q p hp) (fun q p hp => q p hp), h.2⟩
/-- the exact dict at a -/
def dictAt (K : PySem.W.Frag) (a : Addr) : Option (List DictEntry) := match K.lookup a with
  | some ⟨.type c, none, .dict es _, sl⟩ => if c = "dict" ∧ sl.size = 0 then some es.toList else none
  | _ => none
def seqAt (K : PySem.W.Frag) (a : Addr) (c : String) : Option (List Value) := match K.lookup a with
  | some ⟨.type t, none, .seq its _, _⟩ => if t = c ∧ its.size ≤ sizeLine then some its.toList else none
  | _ => none
mutual
def kV (K : PySem.W.Frag) : D → Value → Bool
  | .non, u => match u with
    | .none => true
    | _ => false
  | .bl b, u => match u with
    | .bool c => b == c
    | _ => false
  | .int i, u => match u with
    | .int j _ => decide (i = j)
    | _ => false
  | .str s, u => match u with
    | .str t _ => decide (s = t)
    | _ => false
  | .ty n, u => match u with
    | .type m => decide (n = m)
    | _ => false
  | .fn x, u => match u with
    | .ref a => He.eqO (PySem.W.nsIn K mainGlobals x) (some (some (.ref a))) && PySem.W.keepIn K (.ref a)
    | _ => false
  | .tup l, u => match u with
    | .ref a => match seqAt K a "tuple" with
      | some its => kVs K l its
      | none => false
    | _ => false
  | .rol l, u => match u with
    | .ref a => match seqAt K a "list" with
      | some its => kVs K l its
      | none => false
    | _ => false
  | .dct kvs, u => match u with
    | .ref a => match dictAt K a with
      | some es => !(a == sysModules) && dOkC kvs && kVe K kvs es
      | none => false
    | _ => false
  | .wtp _, _ => false
  | .lst _, _ => false
  | .obj _, _ => false
def kVs (K : PySem.W.Frag) : List D → List Value → Bool
  | [], us => us.isEmpty
  | d :: r, us => match us with
    | u :: us => kV K d u && kVs K r us
    | [] => false
def kVe (K : PySem.W.Frag) : List (D × D) → List DictEntry → Bool
  | [], es => es.isEmpty
  | (a, b) :: r, es => match es with
    | e :: es => kV K a e.key && kV K b e.val && kVe K r es
    | [] => false
end
mutual
/-- the hashes that must agree -/
def kH (w : World) (K : PySem.W.Frag) : D → Value → List (Int × Int)
  | .tup l, u => match u with
    | .ref a => match seqAt K a "tuple" with
      | some its => kHs w K l its
      | none => []
    | _ => []
  | .rol l, u => match u with
    | .ref a => match seqAt K a "list" with
      | some its => kHs w K l its
      | none => []
    | _ => []
  | .dct kvs, u => match u with
    | .ref a => match dictAt K a with
      | some es => kHe w K kvs es
      | none => []
    | _ => []
  | _, _ => []
def kHs (w : World) (K : PySem.W.Frag) : List D → List Value → List (Int × Int)
  | [], _ => []
  | d :: r, us => match us with
    | u :: us => kH w K d u ++ kHs w K r us
    | [] => []
def kHe (w : World) (K : PySem.W.Frag) : List (D × D) → List DictEntry → List (Int × Int)
  | [], _ => []
  | (a, b) :: r, es => match es with
    | e :: es => (e.hash, a.nk.hash w) :: (kH w K a e.key ++ kH w K b e.val ++ kHe w K r es)
    | [] => []
end
theorem seqAt_ok {K : PySem.W.Frag} {a : Addr} {c : String} {l : List Value} (h : seqAt K a c = some l) : ∃ (o : Obj) (its : Array Value) (n : Nat), K.lookup a = some o ∧ o.cls = .type c ∧ o.dict = none ∧ o.data = .seq its n ∧ its.size ≤ sizeLine ∧ its.toList = l := by
  unfold seqAt at h
  split at h
  · rename_i e
    split at h
    · rename_i q
      cases h
      exact ⟨_, _, _, e, by rw [q.1], rfl, rfl, q.2, rfl⟩
    · cases h
  · cases h
theorem dictAt_ok {K : PySem.W.Frag} {a : Addr} {l : List DictEntry} (h : dictAt K a = some l) : ∃ (o : Obj) (es : Array DictEntry) (n : Nat), K.lookup a = some o ∧ o.ExactDict ∧ o.data = .dict es n ∧ es.toList = l := by
  unfold dictAt at h
  split at h
  · rename_i e
    split at h
    · rename_i q
      cases h
      exact ⟨_, _, _, e, ⟨by rw [q.1], rfl, by simpa using q.2⟩, rfl, rfl⟩
    · cases h
  · cases h
section
variable {g : Gx} {h : Heap}
mutual
theorem kV_ok (X : g.K.In h) (G : h.Ns mainGlobals g.mg) : ∀ {d : D} {u : Value}, kV g.K d u = true → (∀ p ∈ kH g.w g.K d u, p.1 = p.2) → ∃ v, RelV v u ∧ ∀ ρ H, RD g ρ H d v
  | .non, u, c, _ => by
    cases u <;> (try simp only [kV] at c) <;> first | exact ⟨.non, rfl, fun _ _ => .non⟩ | cases c
  | .bl b, u, c, _ => by
    cases u <;> simp only [kV] at c <;> first | (cases eq_of_beq c; exact ⟨.bl b, rfl, fun _ _ => .bl _⟩) | cases c
  | .int i, u, c, _ => by
    cases u <;> simp only [kV] at c <;> first | (cases of_decide_eq_true c; exact ⟨.int i, ⟨_, rfl⟩, fun _ _ => .int _⟩) | cases c
  | .str s, u, c, _ => by
    cases u <;> simp only [kV] at c <;> first | (cases of_decide_eq_true c; exact ⟨.str s, ⟨_, rfl⟩, fun _ _ => .str _⟩) | cases c
  | .ty n, u, c, _ => by
    cases u <;> simp only [kV] at c <;> first | (cases of_decide_eq_true c; exact ⟨.ty n, rfl, fun _ _ => .ty _⟩) | cases c
  | .fn x, u, c, hh => by
    cases u <;> simp only [kV] at c <;> first | (cases c; done) | skip
    rename_i a
    simp only [Bool.and_eq_true] at c
    exact ⟨.ref a, rfl, fun _ _ => .fn (PySem.W.mg_of X G (He.eqO_ok c.1)) c.2⟩
  | .tup l, u, c, hh => by
    cases u <;> simp only [kV] at c <;> first | (cases c; done) | skip
    rename_i a
    cases e : seqAt g.K a "tuple" with
    | none => rw [e] at c; cases c
    | some its =>
      rw [e] at c
      simp only [kH, e] at hh
      obtain ⟨vs, r, q⟩ := kVs_ok X G c hh
      obtain ⟨o, arr, n, h1, h2, h3, h4, h5, h6⟩ := seqAt_ok e
      exact ⟨.ref a, rfl, fun ρ H => .tup (.inr ⟨o, arr, n, h1, h2, h3, h4, h5, by rw [h6]; exact r⟩) (q ρ H)⟩
  | .rol l, u, c, hh => by
    cases u <;> simp only [kV] at c <;> first | (cases c; done) | skip
    rename_i a
    cases e : seqAt g.K a "list" with
    | none => rw [e] at c; cases c
    | some its =>
      rw [e] at c
      simp only [kH, e] at hh
      obtain ⟨vs, r, q⟩ := kVs_ok X G c hh
      obtain ⟨o, arr, n, h1, h2, h3, h4, h5, h6⟩ := seqAt_ok e
      exact ⟨.ref a, rfl, fun ρ H => .rol (.inr ⟨o, arr, n, h1, h2, h3, h4, h5, by rw [h6]; exact r⟩) (q ρ H)⟩
  | .dct l, u, c, hh => by
    cases u <;> simp only [kV] at c <;> first | (cases c; done) | skip
    rename_i a
    cases e : dictAt g.K a with
    | none => rw [e] at c; cases c
    | some es =>
      rw [e] at c
      simp only [kH, e] at hh
      simp only [Bool.and_eq_true, Bool.not_eq_true'] at c
      have q := kVe_ok X G c.2 hh
      obtain ⟨o, arr, n, h1, h2, h3, h4⟩ := dictAt_ok e
      exact ⟨.ref a, rfl, fun ρ H => .dct (.inr h1) c.1.1 h2 h3 (dOkC_ok c.1.2) (by rw [h4]; exact q ρ H)⟩
  | .wtp l, u, c, _ => by simp only [kV] at c; cases c
  | .lst l, u, c, _ => by simp only [kV] at c; cases c
  | .obj n, u, c, _ => by simp only [kV] at c; cases c
theorem kVs_ok (X : g.K.In h) (G : h.Ns mainGlobals g.mg) : ∀ {l : List D} {us : List Value}, kVs g.K l us = true → (∀ p ∈ kHs g.w g.K l us, p.1 = p.2) → ∃ vs, Vals vs us ∧ ∀ ρ H, RDs g ρ H l vs
  | [], us, c, _ => by
    simp only [kVs] at c
    cases us with
    | nil => exact ⟨[], .nil, fun _ _ => .nil⟩
    | cons _ _ => cases c
  | d :: r, us, c, hh => by
    simp only [kVs] at c
    cases us with
    | nil => cases c
    | cons u us =>
      simp only [Bool.and_eq_true] at c
      simp only [kHs, List.mem_append] at hh
      obtain ⟨v, r1, q1⟩ := kV_ok X G c.1 fun p hp => hh p (.inl hp)
      obtain ⟨vs, r2, q2⟩ := kVs_ok X G c.2 fun p hp => hh p (.inr hp)
      exact ⟨v :: vs, .cons r1 r2, fun ρ H => .cons (q1 ρ H) (q2 ρ H)⟩
theorem kVe_ok (X : g.K.In h) (G : h.Ns mainGlobals g.mg) : ∀ {l : List (D × D)} {es : List DictEntry}, kVe g.K l es = true → (∀ p ∈ kHe g.w g.K l es, p.1 = p.2) → ∀ ρ H, RDe g ρ H l es
  | [], es, c, _ => by
    simp only [kVe] at c
    cases es with
    | nil => exact fun _ _ => .nil
    | cons _ _ => cases c
  | (a, b) :: r, es, c, hh => by
    simp only [kVe] at c
    cases es with
    | nil => cases c
    | cons e es =>
      simp only [Bool.and_eq_true] at c
      simp only [kHe, List.mem_cons, List.mem_append] at hh
      obtain ⟨v, r1, q1⟩ := kV_ok X G c.1.1 fun p hp => hh p (.inr (.inl (.inl hp)))
      obtain ⟨v2, r2, q2⟩ := kV_ok X G c.1.2 fun p hp => hh p (.inr (.inl (.inr hp)))
      have q3 := kVe_ok X G c.2 fun p hp => hh p (.inr (.inr hp))
      exact fun ρ H => .cons (q1 ρ H) r1 (hh _ (.inl rfl)) (q2 ρ H) r2 (q3 ρ H)
end
end
/-! ### the program -/
def paramC (p : Arguments) (ps : List Str) : Bool := match p with
  | ⟨[], as, none, [], [], none, _⟩ => decide (as.map (·.arg) = ps)
  | _ => false
theorem paramC_ok {p : Arguments} {ps : List Str} (h : paramC p ps = true) : ∃ as xs, p = ⟨[], as, none, [], [], none, xs⟩ ∧ as.map (·.arg) = ps := by
  unfold paramC at h
  split at h
  · exact ⟨_, _, rfl, of_decide_eq_true h⟩
  · cases h
/-- defaults -/
def dvD : He.Dv → Option D
  | .non => some .non
  | .bl b => some (.bl b)
  | .int i => some (.int i)
  | .str s => some (.str s)
  | _ => none
def dvC : List D → List He.Dv → Bool
  | [], [] => true
  | d :: r, v :: s => (match d, v with
    | .non, .non => true
    | .bl b, .bl c => b == c
    | .int i, .int j => decide (i = j)
    | .str x, .str y => decide (x = y)
    | _, _ => false) && dvC r s
  | _, _ => false
theorem dvC_ok {g : Gx} : ∀ {l : List D} {r : List He.Dv}, dvC l r = true → ∀ ρ H, RDs g ρ H l (r.map (He.Dv.v g.K))
  | [], [], _, _, _ => .nil
  | d :: l, v :: r, h, ρ, H => by
    simp only [dvC, Bool.and_eq_true] at h
    obtain ⟨h1, h2⟩ := h
    refine .cons ?_ (dvC_ok h2 ρ H)
    split at h1
    · exact .non
    · cases eq_of_beq h1; exact .bl _
    · cases of_decide_eq_true h1; exact .int _
    · cases of_decide_eq_true h1; exact .str _
    · cases h1
  | [], _ :: _, h, _, _ => by simp only [dvC] at h; cases h
  | _ :: _, [], h, _, _ => by simp only [dvC] at h; cases h
def scopeC (N ps : List Str) (sc : Scope) : Bool :=
  (match sc.kind with
    | .function => true
    | _ => false) && !sc.isCoroutine && !sc.isGenerator && decide N.Nodup && decide (N.take ps.length = ps) && (ps.all fun x => match sc.names.lookup x with
    | some .local => true
    | some .cell => true
    | _ => false) && sc.names.all fun y => match y.2 with
    | .free => false
    | _ => true
theorem scopeC_ok {N ps : List Str} {sc : Scope} (h : scopeC N ps sc = true) : FnScope N ps sc := by
  unfold scopeC at h
  simp only [Bool.and_eq_true, Bool.not_eq_true', decide_eq_true_eq, List.all_eq_true] at h
  obtain ⟨⟨⟨⟨⟨⟨h1, h2⟩, h3⟩, h4⟩, h5⟩, h6⟩, h7⟩ := h
  refine ⟨?_, h2, h3, h4, h5, fun x hx => ?_, fun y hy e => ?_⟩
  · split at h1
    · assumption
    · cases h1
  · have q := h6 x hx
    split at q
    · exact .inl (by assumption)
    · exact .inr (by assumption)
    · cases q
  · have q := h7 y hy
    rw [e] at q; cases q
def fnC (P : Prg) (x : Str) (f : FnD) (d : He.DefD) : Bool := decide (d.at_ = (x, none)) && paramC d.params f.ps && dvC f.dfl d.dfl && d.kwd.isEmpty && scopeC f.N f.ps d.scope && decide (f.dfl.length ≤ f.ps.length) && ckSs f.body (P.sx f d.scope) d.body
def faOf (P : Prg) : List He.Fa := P.fns.map (fun p => He.Fa.glo p.1) ++ P.fr.map He.Fa.free
/-- the constants that are read -/
def conC (K : PySem.W.Frag) (l : List (Str × D)) : Bool := l.all fun p => match PySem.W.nsIn K mainGlobals p.1 with
  | some (some u) => kV K p.2 u
  | _ => false
def conH (w : World) (K : PySem.W.Frag) (l : List (Str × D)) : List (Int × Int) := l.flatMap fun p => match PySem.W.nsIn K mainGlobals p.1 with
  | some (some u) => kH w K p.2 u
  | _ => []
inductive AllF (P : Prg) : List (Str × FnD) → List He.DefD → Prop
  | nil : AllF P [] []
  | cons {x : Str} {f : FnD} {d : He.DefD} {fs : List (Str × FnD)} {ds : List He.DefD} : fnC P x f d = true → AllF P fs ds → AllF P ((x, f) :: fs) (d :: ds)
theorem AllF.at_ {P : Prg} : ∀ {fs : List (Str × FnD)} {ds : List He.DefD}, AllF P fs ds → ∀ {x : Str} {f : FnD}, fs.lookup x = some f → ∃ (i : Nat) (d : He.DefD), fs[i]? = some (x, f) ∧ ds[i]? = some d ∧ fnC P x f d = true
  | _, _, .nil, x, f, h => by cases h
  | _, _, .cons (x := y) (f := f0) (d := d) (fs := fs) (ds := ds) c r, x, f, h => by
    rw [List.lookup_cons] at h
    cases e : x == y with
    | true =>
      rw [e] at h; cases h
      cases eq_of_beq e
      exact ⟨0, d, rfl, rfl, c⟩
    | false =>
      rw [e] at h
      obtain ⟨i, d', h1, h2, h3⟩ := r.at_ h
      exact ⟨i + 1, d', by simpa using h1, by simpa using h2, h3⟩
theorem prg_ok {p : Program} {w : World} {K : PySem.W.Frag} {h : Heap} {mg : Str → Option Value} {P : Prg} {src : List He.DefD} {con : List (Str × D)} (X : K.In h) (G : h.Ns mainGlobals mg) (says : He.SaysD (faOf P) src K) (hf : AllF P P.fns src)
    (hG : P.G = fun x => con.lookup x) (hcs : P.cs = con.map (·.1)) (hnd : (con.map (·.1)).Nodup) (hc : conC K con = true) (hh : (conH w K con).map (·.1) = (conH w K con).map (·.2)) : PrgOk ⟨p, w, K, mg⟩ P := by
  have hh' : ∀ q ∈ conH w K con, q.1 = q.2 := by
    revert hh
    generalize conH w K con = l
    induction l with
    | nil => intro _ q hq; cases hq
    | cons a l ih =>
      intro hh q hq
      simp only [List.map_cons, List.cons.injEq] at hh
      rcases List.mem_cons.mp hq with rfl | hq
      · exact hh.1
      · exact ih hh.2 q hq
  refine ⟨fun x f hx => ?_, fun x hx => ?_, fun x hx => ?_⟩
  · obtain ⟨i, d, h1, h2, c⟩ := hf.at_ hx
    unfold fnC at c
    simp only [Bool.and_eq_true, decide_eq_true_eq] at c
    obtain ⟨⟨⟨⟨⟨⟨c1, c2⟩, c3⟩, c4⟩, c5⟩, c6⟩, c7⟩ := c
    obtain ⟨fd, F⟩ := says.def_ i h2
    obtain ⟨as, xs, e1, e2⟩ := paramC_ok c2
    have hm : mg x = some (.ref (He.ga K x)) := He.glo_ok X G (says.fact i (by
      unfold faOf
      have : i < (P.fns.map fun p => He.Fa.glo p.1).length := by rw [List.length_map]; exact (List.getElem?_eq_some_iff.mp h1).1
      rw [List.getElem?_append_left this, List.getElem?_map, h1]; rfl))
    have ef : He.fAd K d.at_ = He.ga K x := by rw [c1]; rfl
    rw [ef, e1] at F
    have ek : d.kws K = [] := by
      unfold He.DefD.kws
      cases hk : d.kwd with
      | nil => rfl
      | cons _ _ => rw [hk] at c4; cases c4
    rw [ek] at F
    exact ⟨⟨He.ga K x, d.name, d.qual, as, xs, d.body, d.scope, d.dvs K, fd, hm, F, scopeC_ok c5, e2, dvC_ok c3, c6, c7⟩⟩
  · rw [hcs] at hx
    obtain ⟨⟨y, d⟩, hq, rfl⟩ := List.mem_map.mp hx
    have c := List.all_eq_true.mp hc _ hq
    dsimp only at c ⊢
    have hl : con.lookup y = some d := by
      clear hh hh' hc says hf hcs hG hx c
      induction con with
      | nil => cases hq
      | cons a l ih =>
        simp only [List.map_cons, List.nodup_cons] at hnd
        rw [List.lookup_cons]
        rcases List.mem_cons.mp hq with rfl | hq
        · simp
        · have : (y == a.1) = false := beq_false_of_ne fun e => hnd.1 (e ▸ List.mem_map_of_mem (f := (·.1)) hq)
          rw [this]
          exact ih hnd.2 hq
    cases e : PySem.W.nsIn K mainGlobals y with
    | none => rw [e] at c; cases c
    | some r =>
      rw [e] at c
      cases r with
      | none => cases c
      | some u =>
        have c : kV K d u = true := c
        obtain ⟨v, r1, q1⟩ := kV_ok (g := ⟨p, w, K, mg⟩) X G (d := d) (u := u) c fun q hq' => hh' q (List.mem_flatMap.mpr ⟨(y, d), hq, by
          dsimp only
          rw [e]; exact hq'⟩)
        exact ⟨d, u, v, by rw [hG]; exact hl, PySem.W.mg_of X G e, r1, q1⟩
  · obtain ⟨i, hi⟩ := List.mem_iff_getElem?.mp hx
    exact He.free_ok X G (says.fact (P.fns.length + i) (by
      unfold faOf
      rw [List.getElem?_append_right (by rw [List.length_map]; omega), List.length_map, Nat.add_sub_cancel_left, List.getElem?_map, hi]; rfl))
end Ev

set_option Elab.async false
set_option linter.all false
set_option maxRecDepth 100000
set_option maxHeartbeats 1000000
/-! Ev23: the law's call behind the top. -/
namespace Ev
open PySem PySem.Spec PyProof.Rows L2
theorem ints_rd {g : Gx} {ρ : Rho} {H : Hp} : ∀ ns : List Int, RDs g ρ H (ns.map D.int) (ns.map V.int)
  | [] => .nil
  | n :: r => .cons (.int n) (ints_rd r)
/-- the script as it lies: known to its object, unless it is one of the module's own -/
def scr (K : PySem.W.Frag) (a : Addr) (o : Obj) (xs : List V) : Hp := fun b => if b = a ∧ (K.lookup a).isNone = true then some (.frz o (.lst xs)) else none
section
variable {K : PySem.W.Frag} {a : Addr} {o : Obj} {xs : List V}
theorem scr_some {b : Addr} {u : HO} (h : scr K a o xs b = some u) : b = a ∧ K.lookup a = none ∧ u = .frz o (.lst xs) := by
  unfold scr at h
  split at h
  · rename_i q
    cases h
    exact ⟨q.1, by simpa using q.2, rfl⟩
  · cases h
theorem scr_in (h : K.lookup a = none) : scr K a o xs a = some (.frz o (.lst xs)) := if_pos ⟨rfl, by rw [h]; rfl⟩
end
theorem law_run {p : Program} {w : World} {K : PySem.W.Frag} {mg mb : Str → Option Value} {P : Prg} {k : Nat} {fa a : Addr} {f : FnD} {s : Shared} {vs : List Value} {ns : List Int} {M : Mem}
    (KX : K.In s.heap) (G : s.heap.Ns mainGlobals mg) (B : s.heap.Ns builtinsNs mb) (BB : ∀ x : Str, x ≠ "__name__" → mb x = bootBuiltins x) (lim : s.heap.NoLimit) (gens : s.gens = #[])
    (ha : s.heap.get? a = some { cls := .type "list", data := .seq vs.toArray }) (hi : IntsAre vs ns) (hl : ns.length ≤ sizeLine) (hr : Room k callerA)
    (ok : PrgOk ⟨p, w, K, mg⟩ P) (hm : mg "law" = some (.ref fa)) (hf : P.fns.lookup ("law" : Str) = some f) (h1 : f.ps.length = 1) (hd : f.dfl = []) (run : run P k (.fn "law") [.rol (ns.map .int)] [] = .ok (.bl true) M) :
    codeAny (model p w) callerA (.call (.ref fa) ⟨[.ref a], []⟩) (fun r s' => r = .ok (.ret (.bool true)) ∧ OldK s.heap s'.heap ∧ s'.os = s.os ∧ AllBare s'.gens) s := by
  have rv := vals_ints hi
  have lv := hi.length
  have noL : sizeOk (.seq vs.toArray) := by
    show vs.toArray.size ≤ sizeLine
    rw [List.size_toArray, lv]; exact hl
  let H : Hp := scr K a { cls := .type "list", data := .seq vs.toArray } (ns.map V.int)
  -- what lies in the heap is none of ours, but the script
  have free : ∀ {b : Addr} {o : Obj}, s.heap.get? b = some o → (b = a → K.lookup a = none → False) → H b = none := fun {b o} e n => by
    cases q : H b with
    | none => rfl
    | some u => exact (n (scr_some q).1 (scr_some q).2.1).elim
  have notDict : ∀ {b : Addr} {m : Str → Option Value}, s.heap.Ns b m → (hidT s.heap H).Ns b m := fun {b m} ⟨o, es, ep, e, d, r⟩ => ⟨o, es, ep, hidT_get e (free e fun z _ => by
    subst z
    rw [ha] at e; cases e
    have d' : Data.seq vs.toArray _ = Data.dict es ep := d
    cases d'), d, r⟩
  have KB : K.In (hidT s.heap H) := fun b o e => hidT_get (KX b o e) (free (KX b o e) fun z n => by subst z; rw [e] at n; cases n)
  have mod : Mod K mg (hidT s.heap H) := ⟨KB, notDict G, ⟨mb, notDict B, BB⟩, let ⟨mc, q1, q2⟩ := lim; ⟨mc, notDict q1, q2⟩⟩
  have hok : HOk p w H s.heap := fun b u z => by
    obtain ⟨rfl, _, rfl⟩ := scr_some z
    exact ⟨ha, by rw [List.length_map]; exact hl, vs, _, rv, ha⟩
  have e0 : Env0 p w K mg (hidT s.heap H) callerA [] s H := ⟨rfl, mod, fun b o e => of_hidT e, Nat.le_of_eq (hidT_size _ _), trivial, fun b hb => (nomatch hb), hok, .of_eq gens⟩
  have nd : f.ps.Nodup := by
    obtain ⟨_, _, _, _, _, _, _, _, _, _, _, S, _⟩ := (ok.fn _ _ hf).ex
    exact psNd_of S
  have rep : Rep ⟨p, w, K, mg⟩ ⟨[], []⟩ [] H := ⟨rfl, List.nodup_nil, fun n a c h => by simp at h, fun a h => (nomatch h), fun n c h => by simp at h⟩
  have at_ : AtL ⟨p, w, K, mg⟩ ⟨[], []⟩ H a (ns.map V.int) := by
    cases hk : K.lookup a with
    | none => exact .inl ⟨fun q => (by rcases q with q | q <;> cases q), .inr ⟨_, scr_in hk⟩⟩
    | some o =>
      have e := KX a o hk
      rw [ha] at e; cases e
      exact .inr ⟨_, vs.toArray, _, hk, rfl, rfl, rfl, noL, by simpa using rv⟩
  have fl : P.fis.lookup ("law" : Str) = some ⟨f.ps, f.dfl⟩ := by rw [Prg.fis_at, hf]; rfl
  have go := calls_ok (base := hidT s.heap H) ok k callerA hr rfl "law" ⟨f.ps, f.dfl⟩ fa fl hm [] s H ⟨[], []⟩ [] [] [.ref a] [] [.ref a] [] [.rol (ns.map .int)] [] [.rol (ns.map .int)] (fun v _ => v = .bl true) (fun _ _ _ => False)
    e0 rep (.cons rfl .nil) .nil (.cons (.rol at_ (ints_rd ns)) .nil) .nil rfl (by
      have := bindOk_full (nd := f.dfl.length) nd (by rw [hd, h1]; decide)
      rw [h1] at this
      exact this) (bindP_full nd (by rw [h1]; rfl)) (by
      show Post _ _ _ (Ev.run P k (.fn "law") [.rol (ns.map .int)] []) _
      rw [run]
      intro ρ' H' _ _ v rd
      cases rd; rfl)
  refine codeAny_mono go fun r s' h => ?_
  cases r with
  | error e => exact False.elim h
  | ok fl =>
    cases fl with
    | next => exact False.elim h
    | brk => exact False.elim h
    | cont => exact False.elim h
    | ret u =>
      obtain ⟨v, H', os, bare, un, hok', r', q⟩ := h
      cases (show v = .bl true from q)
      cases (show u = Value.bool true from r')
      refine ⟨rfl, OldK.of_keep fun b o e => ?_, os, bare⟩
      cases z : H b with
      | none => exact un.keep b o e z (fun y => nomatch y) (fun y => nomatch y)
      | some y =>
        obtain ⟨rfl, _, rfl⟩ := scr_some z
        rw [ha] at e; cases e
        exact (hok' b _ (un.frzs b _ _ z)).1
/-- THE JOIN: a program that is checked, whose run tells True for every script -/
theorem law_walk {l : PySem.W.OpenLaw} {n : Nat} {q : Program} {loose : List Str} {XP : (Str → Option Value) → Heap → Prop} {YP : World → Heap → Prop} {d : DefRec} {K : World → PySem.W.Frag} {P : Prg} {src : List He.DefD} {con : List (Str × D)} {f : FnD}
    (hn : l.most = some n) (hn2 : n ≤ sizeLine) (hdf : d.params.defaults = []) (hnm : d.name = "law") (hY : ∀ (w : World) (h : Heap), YP w h → (K w).In h)
    (says : ∀ w : World, He.SaysD (faOf P) src (K w)) (hfs : AllF P P.fns src) (hG : P.G = fun x => con.lookup x) (hcs : P.cs = con.map (·.1)) (hnd : (con.map (·.1)).Nodup) (hc : ∀ w : World, conC (K w) con = true)
    (hh : ∀ w : World, (conH w (K w) con).map (·.1) = (conH w (K w) con).map (·.2)) (hf : P.fns.lookup ("law" : Str) = some f) (h1 : f.ps.length = 1) (hd : f.dfl = [])
    (run : ∀ ns : List Int, ns.length ≤ n → ∃ k M, Room k callerA ∧ run P k (.fn "law") [.rol (ns.map .int)] [] = .ok (.bl true) M) :
    PySem.W.WalkO q loose XP YP l.row.toRowW d [] (fun f vs => PySem.call f vs) := by
  refine Att.attach_call hn hdf fun w s₀ s mg mb fa o pm cd doc a vs ns G Y ho hd' hcd hmg hobj hints hlen hg => ?_
  obtain ⟨k, M, hr, hrun⟩ := run ns hlen
  have KX := hY w _ Y
  rw [hnm] at hmg
  exact law_run KX G.T.g G.T.b G.T.builtins G.T.nolimit hg hobj hints (Nat.le_trans hlen hn2) hr (prg_ok KX G.T.g (says w) hfs hG hcs hnd (hc w) (hh w)) hmg hf h1 hd hrun
end Ev

set_option Elab.async false
set_option linter.all false
set_option maxRecDepth 100000
set_option maxHeartbeats 1000000
/-! Ev24: rules for simp: what core texts compute. -/
namespace Ev
open PySem (Str PyData)
section
variable {E : En} {σ : St'} {M : Mem}
@[simp] theorem ev_k {d : D} : ev E (.k d) σ M = .ok d M := by simp only [ev]
@[simp] theorem ev_var {i : Nat} : ev E (.var i) σ M = match σ[i]? with
    | some (some d) => .ok d M
    | _ => .bad := by simp only [ev] <;> rfl
@[simp] theorem ev_glo {x : Str} : ev E (.glo x) σ M = match E.G x with
    | some d => .ok d M
    | none => .bad := by simp only [ev] <;> rfl
@[simp] theorem ev_bin {op : PySem.Operator} {a b : C} : ev E (.bin op a b) σ M = (ev E a σ M).bind fun x M => (ev E b σ M).bind fun y M => binD op x y M := by simp only [ev]
@[simp] theorem ev_una {op : PySem.UnaryOp} {a : C} : ev E (.una op a) σ M = (ev E a σ M).bind fun x M => unaD op x M := by simp only [ev]
@[simp] theorem ev_cmp {op : PySem.CmpOp} {a b : C} : ev E (.cmp op a b) σ M = (ev E a σ M).bind fun x M => (ev E b σ M).bind fun y M => cmpD op x y M := by simp only [ev]
/-- what and, or, not, a choice do with a value's truth -/
def tIte (x : D) (M : Mem) (a b : Mem → Res D) : Res D := (truR x M).bind fun t M => match t with
  | true => a M
  | false => b M
@[simp] theorem tIte_bl {b : Bool} {f g : Mem → Res D} : tIte (.bl b) M f g = if b then f M else g M := by cases b <;> rfl
theorem tIte_of {x : D} {t : Bool} {f g : Mem → Res D} (h : truth M x = some t) : tIte x M f g = if t then f M else g M := by
  unfold tIte truR; rw [h]; cases t <;> rfl
@[simp] theorem ev_and {a b : C} : ev E (.and_ a b) σ M = (ev E a σ M).bind fun x M => tIte x M (fun M => ev E b σ M) fun M => .ok x M := by simp only [ev] <;> rfl
@[simp] theorem ev_or {a b : C} : ev E (.or_ a b) σ M = (ev E a σ M).bind fun x M => tIte x M (fun M => .ok x M) fun M => ev E b σ M := by simp only [ev] <;> rfl
@[simp] theorem ev_not {a : C} : ev E (.not_ a) σ M = (ev E a σ M).bind fun x M => tIte x M (fun M => .ok (.bl false) M) fun M => .ok (.bl true) M := by
  simp only [ev, tIte]
  congr 1; funext x M; congr 1; funext t M; cases t <;> rfl
@[simp] theorem ev_ite {t a b : C} : ev E (.ite t a b) σ M = (ev E t σ M).bind fun x M => tIte x M (fun M => ev E a σ M) fun M => ev E b σ M := by simp only [ev] <;> rfl
@[simp] theorem ev_tup {l : CL} : ev E (.tup l) σ M = (evs E l σ M).bind fun ds M => if ds.length ≤ LIM then .ok (.tup ds) M else .bad := by simp only [ev]
@[simp] theorem ev_lst {c : Bool} {l : CL} : ev E (.lst c l) σ M = (evs E l σ M).bind fun ds M => if ds.length ≤ LIM then fresh c ds M else .bad := by simp only [ev]
@[simp] theorem ev_dnewF : ev E (.dnew false) σ M = .ok (.dct []) M := by simp only [ev] <;> rfl
@[simp] theorem ev_dnewT : ev E (.dnew true) σ M = newCell M (.dct []) := by simp only [ev] <;> rfl
@[simp] theorem ev_ddisF {kvs : List (D × D)} : ev E (.ddis false kvs) σ M = .ok (.dct kvs) M := by simp only [ev] <;> rfl
@[simp] theorem ev_ddisT {kvs : List (D × D)} : ev E (.ddis true kvs) σ M = newCell M (.dct kvs) := by simp only [ev] <;> rfl
@[simp] theorem ev_idx {a b : C} : ev E (.idx a b) σ M = (ev E a σ M).bind fun x M => (ev E b σ M).bind fun y M => idxD x y M := by simp only [ev]
@[simp] theorem ev_sli {a : C} {lo hi : CO} : ev E (.sli a lo hi) σ M = (ev E a σ M).bind fun x M => ((evo E lo σ M).bind optR).bind fun l M => ((evo E hi σ M).bind optR).bind fun h M => sliD x l h M := by simp only [ev]
@[simp] theorem ev_rev {a : C} : ev E (.rev a) σ M = (ev E a σ M).bind fun x M => revD x M := by simp only [ev]
def callA (E : En) (x : Str) (l : Option (List D)) (M : Mem) : Res D := match l with
  | some as => E.call (.fn x) as M
  | none => .bad
@[simp] theorem callA_some {x : Str} {l : List D} : callA E x (some l) M = E.call (.fn x) l M := Eq.trans rfl rfl
@[simp] theorem ev_call {x : Str} {l k : CL} {ord : List (Nat ⊕ Nat)} : ev E (.call x l k ord) σ M = (evs E l σ M).bind fun ds M => (evs E k σ M).bind fun es M => callA E x (arrange (ds ++ es) (E.dfl x) ord) M := by simp only [ev] <;> rfl
@[simp] theorem ev_cal {i : Nat} {l : CL} : ev E (.cal i l) σ M = match σ[i]? with
    | some (some f) => (evs E l σ M).bind fun ds M => E.call f ds M
    | _ => .bad := by simp only [ev] <;> rfl
@[simp] theorem ev_blt {b : Blt} {l : CL} : ev E (.blt b l) σ M = (evs E l σ M).bind fun ds M => bltD E.call b ds M := by simp only [ev]
@[simp] theorem ev_met {m : Met} {o : C} {l : CL} : ev E (.met m o l) σ M = (ev E o σ M).bind fun x M => if recD m M x then (evs E l σ M).bind fun ds M => metD m x ds M else .bad := by simp only [ev]
noncomputable def ifsR (E : En) (ifs : CO) (σ : St') (M : Mem) : Res Bool := (evo E ifs σ M).bind fun r M => match r with
  | none => .ok true M
  | some x => truR x M
@[simp] theorem ifsR_none : ifsR E .none σ M = .ok true M := by simp only [ifsR, evo, Res.bind_ok]
@[simp] theorem ifsR_some {a : C} : ifsR E (.some a) σ M = (ev E a σ M).bind fun x M => truR x M := by simp only [ifsR, evo, Res.bind_assoc, Res.bind_ok]
@[simp] theorem ev_comp {c : Bool} {own : List (Str × Nat)} {t : T} {it : I} {ifs : CO} {e : C} : ev E (.comp c own t it ifs e) σ M =
    (evi E it σ M).bind fun xs M => (compL xs.2 xs.1 (fun x σ M => asT E t x σ M) (fun σ M => ifsR E ifs σ M) (fun σ M => ev E e σ M) (wipe' σ (own.map (·.2))) xs.1 [] M).bind fun acc M => fresh c acc M := by simp only [ev] <;> rfl
@[simp] theorem evs_nil : evs E .nil σ M = .ok [] M := by simp only [evs]
@[simp] theorem evs_cons {a : C} {l : CL} : evs E (.cons a l) σ M = (ev E a σ M).bind fun x M => (evs E l σ M).bind fun xs M => .ok (x :: xs) M := by simp only [evs]
@[simp] theorem evo_none : evo E .none σ M = .ok none M := by simp only [evo]
@[simp] theorem evo_some {a : C} : evo E (.some a) σ M = (ev E a σ M).bind fun x M => .ok (some x) M := by simp only [evo]
@[simp] theorem evi_val {a : C} : evi E (.val a) σ M = (ev E a σ M).bind fun x M => walkV x M := by simp only [evi]
@[simp] theorem evi_rng1 {a : C} : evi E (.rng1 a) σ M = (ev E a σ M).bind fun x M => rng1V x M := by simp only [evi]
@[simp] theorem evi_rng2 {a b : C} : evi E (.rng2 a b) σ M = (ev E a σ M).bind fun x M => (ev E b σ M).bind fun y M => rng2V x y M := by simp only [evi]
@[simp] theorem evi_zip {a b : C} : evi E (.zip a b) σ M = (ev E a σ M).bind fun x M => (ev E b σ M).bind fun y M => zipV x y M := by simp only [evi]
@[simp] theorem evi_enum {a : C} : evi E (.enum a) σ M = (ev E a σ M).bind fun x M => enumV x M := by simp only [evi]
variable {d : D}
@[simp] theorem asT_var {i : Nat} : asT E (.var i) d σ M = .ok (σ.set i (some d)) M := by simp only [asT]
@[simp] theorem asT_tup {l : TL} {ds : List D} : asT E (.tup l) (.tup ds) σ M = if ds.length = l.len then asTs E l ds σ M else .bad := by simp only [asT]
@[simp] theorem asT_wtp {l : TL} {ds : List D} : asT E (.tup l) (.wtp ds) σ M = if ds.length = l.len then asTs E l ds σ M else .bad := by simp only [asT]
def setR (σ : St') : Option Mem → Res St'
  | some M => .ok σ M
  | none => .bad
@[simp] theorem setR_some : setR σ (some M) = .ok σ M := rfl
@[simp] theorem asT_sub {a b : C} : asT E (.sub a b) d σ M = (ev E a σ M).bind fun o M => (ev E b σ M).bind fun i M => setR σ (setD o i d M) := by simp only [asT] <;> rfl
@[simp] theorem asTs_nil : asTs E .nil [] σ M = .ok σ M := by simp only [asTs]
@[simp] theorem asTs_cons {t : T} {l : TL} {ds : List D} : asTs E (.cons t l) (d :: ds) σ M = (asT E t d σ M).bind fun σ M => asTs E l ds σ M := by simp only [asTs]
/-! statements -/
@[simp] theorem ex_asg {t : T} {e : C} : exS E (.asg t e) σ M = (ev E e σ M).bind fun x M => (asT E t x σ M).bind fun σ M => .ok (.next σ) M := by simp only [exS]
@[simp] theorem ex_par {l : List Nat} {e : CL} : exS E (.par l e) σ M = (evs E e σ M).bind fun ds M => .ok (.next (setAll σ l ds)) M := by simp only [exS]
@[simp] theorem ex_ex {e : C} : exS E (.ex e) σ M = (ev E e σ M).bind fun _ M => .ok (.next σ) M := by simp only [exS]
@[simp] theorem ex_ret {e : C} : exS E (.ret e) σ M = (ev E e σ M).bind fun x M => .ok (.ret x) M := by simp only [exS]
@[simp] theorem ex_retN : exS E .retN σ M = .ok (.ret .non) M := by simp only [exS]
def tIf (x : D) (M : Mem) (a b : Mem → Res Flow') : Res Flow' := (truR x M).bind fun t M => match t with
  | true => a M
  | false => b M
@[simp] theorem tIf_bl {b : Bool} {f g : Mem → Res Flow'} : tIf (.bl b) M f g = if b then f M else g M := by cases b <;> rfl
@[simp] theorem ex_if {c : C} {a b : SL} : exS E (.if_ c a b) σ M = (ev E c σ M).bind fun x M => tIf x M (fun M => exs E a σ M) fun M => exs E b σ M := by
  simp only [exS, Res.bind_assoc] <;> rfl
@[simp] theorem ex_for {t : T} {it : I} {b : SL} : exS E (.for_ t it b) σ M = (evi E it σ M).bind fun xs M => forL xs.2 xs.1 (fun d σ M => asT E t d σ M) (fun σ M => exs E b σ M) xs.1 σ M := by simp only [exS]
@[simp] theorem ex_pass : exS E .pass σ M = .ok (.next σ) M := by simp only [exS]
@[simp] theorem ex_brk : exS E .brk σ M = .ok (.brk σ) M := by simp only [exS]
@[simp] theorem ex_cnt : exS E .cnt σ M = .ok (.cnt σ) M := by simp only [exS]
@[simp] theorem ex_never : exS E .never σ M = .bad := by simp only [exS]
def seqF (k : Flow') (M : Mem) (f : St' → Mem → Res Flow') : Res Flow' := match k with
  | .next σ => f σ M
  | k => .ok k M
@[simp] theorem seqF_next {f : St' → Mem → Res Flow'} : seqF (.next σ) M f = f σ M := Eq.trans rfl rfl
@[simp] theorem seqF_ret {f : St' → Mem → Res Flow'} : seqF (.ret d) M f = .ok (.ret d) M := rfl
@[simp] theorem seqF_brk {f : St' → Mem → Res Flow'} : seqF (.brk σ) M f = .ok (.brk σ) M := rfl
@[simp] theorem seqF_cnt {f : St' → Mem → Res Flow'} : seqF (.cnt σ) M f = .ok (.cnt σ) M := rfl
@[simp] theorem exs_nil : exs E .nil σ M = .ok (.next σ) M := by simp only [exs]
@[simp] theorem exs_cons {s : S} {l : SL} : exs E (.cons s l) σ M = (exS E s σ M).bind fun k M => seqF k M fun σ M => exs E l σ M := by simp only [exs] <;> rfl
/-! results -/
@[simp] theorem ite_bind {α β : Type} {c : Prop} [Decidable c] {a b : Res α} {f : α → Mem → Res β} : (if c then a else b).bind f = if c then a.bind f else b.bind f := by split <;> rfl
@[simp] theorem finish_ret {mode : Mode} {m : Nat} : finish mode m (.ok (.ret d) M) = leave mode m d M := rfl
@[simp] theorem finish_next {mode : Mode} {m : Nat} : finish mode m (.ok (.next σ) M) = leave mode m .non M := rfl
@[simp] theorem finish_ite {c : Prop} [Decidable c] {mode : Mode} {m : Nat} {a b : Res Flow'} : finish mode m (if c then a else b) = if c then finish mode m a else finish mode m b := by split <;> rfl
@[simp] theorem leave_keep {m : Nat} : leave .keep m d M = .ok d M := rfl
@[simp] theorem leave_bl {b : Bool} : leave .drop M.length (.bl b) M = .ok (.bl b) M := by simp [leave, D.und]
@[simp] theorem leave_int {i : Int} : leave .drop M.length (.int i) M = .ok (.int i) M := by simp [leave, D.und]
@[simp] theorem leave_non : leave .drop M.length .non M = .ok .non M := by simp [leave, D.und]
@[simp] theorem leave_str {s : Str} : leave .drop M.length (.str s) M = .ok (.str s) M := by simp [leave, D.und]
theorem leave_und {m : Nat} (h : d.und m = true) (hm : m = M.length) : leave .drop m d M = .ok d M := by subst hm; simp [leave, h]
/-! operations -/
@[simp] theorem truR_bl {b : Bool} : truR (.bl b) M = .ok b M := rfl
@[simp] theorem optR_some {i : Int} : optR (some (.int i)) M = .ok (some i) M := rfl
@[simp] theorem optR_none : optR none M = .ok none M := rfl
@[simp] theorem walk_tup {l : List D} : walkV (.tup l) M = .ok (l, none) M := rfl
@[simp] theorem walk_lst {l : List D} : walkV (.lst l) M = .ok (l, none) M := rfl
@[simp] theorem walk_rol {l : List D} : walkV (.rol l) M = .ok (l, none) M := rfl
@[simp] theorem fresh_f {l : List D} : fresh false l M = .ok (.lst l) M := rfl
@[simp] theorem fresh_t {l : List D} : fresh true l M = .ok (.obj M.length) (M ++ [.lst l]) := rfl
@[simp] theorem newCell_ok {c : Cell} : newCell M c = .ok (.obj M.length) (M ++ [c]) := rfl
theorem atI_nat {α : Type} {l : List α} {n : Nat} : L2.atI l (n : Int) = l[n]? := by
  unfold L2.atI L2.ixN
  rw [if_pos (by omega)]
  by_cases h : n < l.length
  · rw [if_pos (by omega)]; simp
  · rw [if_neg (by omega)]; simp; omega
theorem idx_nat {l : List D} {n : Nat} {d : D} (h : l[n]? = some d) : idxD (.tup l) (.int n) M = .ok d M := by
  simp only [idxD, dctOf, idxS, seqOf, atD]
  rw [atI_nat, h]
theorem idx_natL {l : List D} {n : Nat} {d : D} (h : l[n]? = some d) : idxD (.lst l) (.int n) M = .ok d M := by
  simp only [idxD, dctOf, idxS, seqOf, atD]
  rw [atI_nat, h]
theorem idx_natR {l : List D} {n : Nat} {d : D} (h : l[n]? = some d) : idxD (.rol l) (.int n) M = .ok d M := by
  simp only [idxD, dctOf, idxS, seqOf, atD]
  rw [atI_nat, h]
theorem idx_obj {l : List D} {j n : Nat} {d : D} (hj : M[j]? = some (.lst l)) (h : l[n]? = some d) : idxD (.obj j) (.int n) M = .ok d M := by
  simp only [idxD, dctOf, idxS, seqOf, hj, atD]
  rw [atI_nat, h]
variable {a b c : D} {l r : List D}
@[simp] theorem idx_0 : idxD (.tup (a :: l)) (.int 0) M = .ok a M := idx_nat (n := 0) rfl
@[simp] theorem idx_1 : idxD (.tup (a :: b :: l)) (.int 1) M = .ok b M := idx_nat (n := 1) rfl
@[simp] theorem idx_2 : idxD (.tup (a :: b :: c :: l)) (.int 2) M = .ok c M := idx_nat (n := 2) rfl
theorem cutL_from {α : Type} {l : List α} {n : Nat} : cutL l (some (n : Int)) none = l.drop n := by
  unfold cutL
  rw [HT.sIx_nat, HT.sIx_none]
  by_cases h : n ≤ l.length
  · rw [Nat.min_eq_left h, ← List.length_drop, List.take_length]
  · rw [Nat.min_eq_right (by omega), List.drop_length, List.drop_of_length_le (by omega)]; simp
theorem cutL_to {α : Type} {l : List α} {n : Nat} : cutL l none (some (n : Int)) = l.take n := by
  unfold cutL
  rw [HT.sIx_nat, HT.sIx_none, List.drop_zero, Nat.sub_zero]
  by_cases h : n ≤ l.length
  · rw [Nat.min_eq_left h]
  · rw [Nat.min_eq_right (by omega), List.take_length, List.take_of_length_le (by omega)]
@[simp] theorem sli_1 : sliD (.tup l) (some 1) none M = .ok (.tup (l.drop 1)) M := by
  have := cutL_from (l := l) (n := 1)
  simp only [sliD]
  exact congrArg (fun z => Res.ok (D.tup z) M) this
theorem sli_from {n : Nat} : sliD (.tup l) (some (n : Int)) none M = .ok (.tup (l.drop n)) M := by
  simp only [sliD, cutL_from]
theorem sli_to {n : Nat} : sliD (.tup l) none (some (n : Int)) M = .ok (.tup (l.take n)) M := by
  simp only [sliD, cutL_to]
@[simp] theorem sli_1L : sliD (.lst l) (some 1) none M = .ok (.lst (l.drop 1)) M := by
  have := cutL_from (l := l) (n := 1)
  simp only [sliD, lrOf]
  exact congrArg (fun z => Res.ok (D.lst z) M) this
@[simp] theorem rev_tup : revD (.tup l) M = .ok (.tup l.reverse) M := rfl
@[simp] theorem eqD_ss {x y : Str} : eqD (.str x) (.str y) = decide (x = y) := by simp only [eqD]
@[simp] theorem inD_nil {x : D} : inD x [] = false := rfl
@[simp] theorem inD_cons {x y : D} {l : List D} : inD x (y :: l) = (eqD y x || inD x l) := rfl
theorem cmp_in {x : D} {l : List D} (h : x.flat = true) (k : l.all D.flat = true) : cmpD .In x (.tup l) M = .ok (.bl (inD x l)) M := by
  simp only [cmpD, cmpIn, seqOf, h, k, Bool.and_self, if_true, Bool.false_bne]
theorem cmp_notIn {x : D} {l : List D} (h : x.flat = true) (k : l.all D.flat = true) : cmpD .NotIn x (.tup l) M = .ok (.bl (!inD x l)) M := by
  simp only [cmpD, cmpIn, seqOf, h, k, Bool.and_self, if_true, Bool.true_bne]
def isIn (x : Str) : List Str → Bool
  | [] => false
  | y :: r => decide (y = x) || isIn x r
theorem inD_strs {x : Str} : ∀ {l : List Str}, inD (.str x) (l.map D.str) = isIn x l
  | [] => rfl
  | y :: r => by rw [List.map_cons, inD_cons, eqD_ss, inD_strs]; rfl
theorem flat_strs : ∀ {l : List Str}, (l.map D.str).all D.flat = true
  | [] => rfl
  | y :: r => by rw [List.map_cons, List.all_cons, flat_strs]; rfl
theorem cmp_inS {x : Str} {l : List Str} : cmpD .In (.str x) (.tup (l.map D.str)) M = .ok (.bl (isIn x l)) M := by rw [cmp_in rfl flat_strs, inD_strs]
theorem cmp_notInS {x : Str} {l : List Str} : cmpD .NotIn (.str x) (.tup (l.map D.str)) M = .ok (.bl (!isIn x l)) M := by rw [cmp_notIn rfl flat_strs, inD_strs]
section
variable {x p q r s : Str}
@[simp] theorem in_1 : cmpD .In (.str x) (.tup [.str p]) M = .ok (.bl (isIn x [p])) M := cmp_inS (l := [p])
@[simp] theorem in_2 : cmpD .In (.str x) (.tup [.str p, .str q]) M = .ok (.bl (isIn x [p, q])) M := cmp_inS (l := [p, q])
@[simp] theorem in_3 : cmpD .In (.str x) (.tup [.str p, .str q, .str r]) M = .ok (.bl (isIn x [p, q, r])) M := cmp_inS (l := [p, q, r])
@[simp] theorem in_4 : cmpD .In (.str x) (.tup [.str p, .str q, .str r, .str s]) M = .ok (.bl (isIn x [p, q, r, s])) M := cmp_inS (l := [p, q, r, s])
@[simp] theorem notIn_1 : cmpD .NotIn (.str x) (.tup [.str p]) M = .ok (.bl (!isIn x [p])) M := cmp_notInS (l := [p])
@[simp] theorem notIn_2 : cmpD .NotIn (.str x) (.tup [.str p, .str q]) M = .ok (.bl (!isIn x [p, q])) M := cmp_notInS (l := [p, q])
@[simp] theorem notIn_3 : cmpD .NotIn (.str x) (.tup [.str p, .str q, .str r]) M = .ok (.bl (!isIn x [p, q, r])) M := cmp_notInS (l := [p, q, r])
@[simp] theorem notIn_4 : cmpD .NotIn (.str x) (.tup [.str p, .str q, .str r, .str s]) M = .ok (.bl (!isIn x [p, q, r, s])) M := cmp_notInS (l := [p, q, r, s])
end
@[simp] theorem cmp_eqS {x y : Str} : cmpD .Eq (.str x) (.str y) M = .ok (.bl (decide (x = y))) M := by
  simp only [cmpD, emptyT]
theorem cmp_ss {x y : Str} (h : PyData.strOk x = true) (k : PyData.strOk y = true) : cmpD .Eq (.str x) (.str y) M = .ok (.bl (decide (x = y))) M := cmp_eqS
theorem cmp_ne {x y : Str} (h : PyData.strOk x = true) (k : PyData.strOk y = true) : cmpD .NotEq (.str x) (.str y) M = .ok (.bl (!decide (x = y))) M := by
  simp only [cmpD, cmpEq, eqOk, D.top, D.sh, D.pl, h, k, Bool.and_self, Bool.or_self, if_true, eqD_ss, Bool.true_bne]
@[simp] theorem cmp_isB {a b : Bool} : cmpD .Is (.bl a) (.bl b) M = .ok (.bl (decide (a = b))) M := by simp only [cmpD, isD, Bool.false_bne]
@[simp] theorem cmp_isnB {a b : Bool} : cmpD .IsNot (.bl a) (.bl b) M = .ok (.bl (!decide (a = b))) M := by simp only [cmpD, isD, Bool.true_bne]
@[simp] theorem cmp_ii {i j : Int} : cmpD .Eq (.int i) (.int j) M = .ok (.bl (decide (i = j))) M := by
  simp only [cmpD, emptyT, cmpEq, eqOk, D.top, D.sh, D.pl, Bool.and_self, Bool.or_self, if_true, eqD, Bool.false_bne]
@[simp] theorem cmp_nii {i j : Int} : cmpD .NotEq (.int i) (.int j) M = .ok (.bl (!decide (i = j))) M := by
  simp only [cmpD, cmpEq, eqOk, D.top, D.sh, D.pl, Bool.and_self, Bool.or_self, if_true, eqD, Bool.true_bne]
@[simp] theorem cmp_lt {i j : Int} : cmpD .Lt (.int i) (.int j) M = .ok (.bl (decide (i < j))) M := rfl
@[simp] theorem cmp_le {i j : Int} : cmpD .LtE (.int i) (.int j) M = .ok (.bl (decide (i ≤ j))) M := rfl
@[simp] theorem cmp_gt {i j : Int} : cmpD .Gt (.int i) (.int j) M = .ok (.bl (decide (j < i))) M := rfl
@[simp] theorem cmp_ge {i j : Int} : cmpD .GtE (.int i) (.int j) M = .ok (.bl (decide (j ≤ i))) M := rfl
@[simp] theorem cmp_empty {l : List D} : cmpD .Eq (.tup l) (.tup []) M = .ok (.bl l.isEmpty) M := by simp only [cmpD, emptyT]
@[simp] theorem add_ii {i j : Int} : binD .Add (.int i) (.int j) M = .ok (.int (i + j)) M := by simp only [binD]
@[simp] theorem sub_ii {i j : Int} : binD .Sub (.int i) (.int j) M = .ok (.int (i - j)) M := by simp only [binD]
theorem mod_ii {i j : Int} (h : 0 < j) : binD .Mod (.int i) (.int j) M = .ok (.int (i % j)) M := by simp only [binD, h, if_true]
theorem div_ii {i j : Int} (h : 0 < j) (k : j < 1073741824) : binD .FloorDiv (.int i) (.int j) M = .ok (.int (i / j)) M := by simp only [binD, h, k, and_self, if_true]
theorem mul_ii {i j : Int} (h : (i64 i || i64 j) = true) : binD .Mult (.int i) (.int j) M = .ok (.int (i * j)) M := by simp only [binD, h, if_true]
theorem add_tt (h : l.length + r.length ≤ LIM) : binD .Add (.tup l) (.tup r) M = .ok (.tup (l ++ r)) M := by simp only [binD, h, if_true]
theorem add_ll (h : l.length + r.length ≤ LIM) : binD .Add (.lst l) (.lst r) M = .ok (.lst (l ++ r)) M := by simp only [binD, lstOf, h, if_true]
@[simp] theorem usub_i {i : Int} : unaD .USub (.int i) M = .ok (.int (-i)) M := rfl
variable {call : D → List D → Mem → Res D}
@[simp] theorem len_tup : bltD call .len [.tup l] M = .ok (.int l.length) M := rfl
@[simp] theorem len_lst : bltD call .len [.lst l] M = .ok (.int l.length) M := rfl
@[simp] theorem len_rol : bltD call .len [.rol l] M = .ok (.int l.length) M := rfl
theorem isi_of {x : D} {t : String} {b : Bool} (h : isiD M x (.ty t) = some b) : bltD call .isi [x, .ty t] M = .ok (.bl b) M := by simp only [bltD, h]
theorem bls_map (bs : List Bool) : bls (bs.map D.bl) = some bs := by
  induction bs with
  | nil => rfl
  | cons b r ih => simp only [List.map_cons, bls, ih, Option.map_some]
theorem all_of {bs : List Bool} : bltD call .all [.lst (bs.map D.bl)] M = .ok (.bl (bs.all id)) M := by
  simp only [bltD, lstOf, Option.bind_some, bls_map]
@[simp] theorem all_0 : bltD call .all [.lst []] M = .ok (.bl true) M := rfl
@[simp] theorem all_1 {p : Bool} : bltD call .all [.lst [.bl p]] M = .ok (.bl p) M := by simpa using all_of (bs := [p]) (call := call) (M := M)
@[simp] theorem all_2 {p q : Bool} : bltD call .all [.lst [.bl p, .bl q]] M = .ok (.bl (p && q)) M := by simpa using all_of (bs := [p, q]) (call := call) (M := M)
@[simp] theorem all_3 {p q s : Bool} : bltD call .all [.lst [.bl p, .bl q, .bl s]] M = .ok (.bl (p && (q && s))) M := by simpa using all_of (bs := [p, q, s]) (call := call) (M := M)
@[simp] theorem int_i {i : Int} : bltD call .int [.int i] M = .ok (.int i) M := rfl
@[simp] theorem abs_i {i : Int} : bltD call .abs [.int i] M = .ok (.int (if i < 0 then -i else i)) M := rfl
/-! walks over lists that are written out -/
variable {ft : D → St' → Mem → Res St'} {fp : St' → Mem → Res Bool} {fe : St' → Mem → Res D} {all acc : List D}
@[simp] theorem compL_nil : compL none all ft fp fe σ [] acc M = .ok acc M := by simp only [compL, chkW_none, if_true]
theorem compL_cons {x : D} {xs : List D} : compL none all ft fp fe σ (x :: xs) acc M = (ft x σ M).bind fun σ1 M => (fp σ1 M).bind fun b M => match b with
    | true => (fe σ1 M).bind fun y M => if acc.length < LIM then compL none all ft fp fe σ xs (acc ++ [y]) M else .bad
    | false => compL none all ft fp fe σ xs acc M := by simp only [compL, chkW_none, if_true] <;> rfl
/-- each item gives a value, the memory as it was -/
theorem compL_map {φ : D → D} {xs : List D} : ∀ {acc : List D}, (∀ x ∈ xs, ∃ σ', ft x σ M = .ok σ' M ∧ fp σ' M = .ok true M ∧ fe σ' M = .ok (φ x) M) → acc.length + xs.length ≤ LIM → compL none all ft fp fe σ xs acc M = .ok (acc ++ xs.map φ) M := by
  induction xs with
  | nil => intro acc _ _; simp
  | cons x xs ih =>
    intro acc h hl
    obtain ⟨σ', h1, h2, h3⟩ := h x List.mem_cons_self
    rw [compL_cons, h1]
    simp only [Res.bind_ok, h2, h3]
    simp only [List.length_cons] at hl
    rw [if_pos (by omega), ih (fun y hy => h y (List.mem_cons_of_mem _ hy)) (by simp; omega)]
    simp
theorem run_step {P : Prg} {n : Nat} {x : Str} {f : FnD} {as : List D} {M : Mem} (h : P.fns.lookup x = some f) (hl : as.length = f.ps.length) : run P (n + 1) (.fn x) as M = finish f.mode M.length (exs (P.en (run P n)) f.body (start' f.N as) M) := by
  simp only [run, h, hl, if_true]
end
end Ev

set_option Elab.async false
set_option linter.all false
set_option maxRecDepth 100000
set_option maxHeartbeats 0
/-! the core texts of k03 (printed by gen.py) -/
namespace Cw
open PySem PySem.Spec PyProof.Rows L2 Ev
def t_is_whole : Ev.FnD := ⟨["value"], [], ["value"],
  (.cons (.ret (.and_ (.blt .isi (.cons (.var 0) (.cons (.k (.ty "int")) .nil))) (.not_ (.blt .isi (.cons (.var 0) (.cons (.k (.ty "bool")) .nil))))))
  .nil), .drop⟩
def t_is_kinded : Ev.FnD := ⟨["value", "deep"], [(.int 100)], ["value", "deep", "each"],
  (.cons (.if_ (.or_ (.cmp .Eq (.var 1) (.k (.int 0))) (.or_ (.not_ (.blt .isi (.cons (.var 0) (.cons (.k (.ty "tuple")) .nil)))) (.or_ (.cmp .Eq (.var 0) (.tup .nil)) (.not_ (.blt .isi (.cons (.idx (.var 0) (.k (.int 0))) (.cons (.k (.ty "str")) .nil)))))))
  (.cons (.ret (.k (.bl false)))
  .nil)
  .nil)
  (.cons (.if_ (.or_ (.cmp .NotEq (.blt .len (.cons (.var 0) .nil)) (.met .get (.glo "KIND_SIZES") (.cons (.idx (.var 0) (.k (.int 0))) (.cons (.k (.int 0)) .nil)))) (.not_ (.blt .all (.cons (.comp false [("each", 2)] (.var 2) (.val (.sli (.var 0) (.some (.k (.int 1))) .none)) .none (.call "is_kinded" (.cons (.var 2) (.cons (.bin .Sub (.var 1) (.k (.int 1))) .nil)) .nil [.inl 0, .inl 1])) .nil))))
  (.cons (.ret (.k (.bl false)))
  .nil)
  .nil)
  (.cons (.ret (.or_ (.cmp .NotEq (.idx (.var 0) (.k (.int 0))) (.k (.str "bag"))) (.call "is_plain" (.cons (.idx (.var 0) (.k (.int 1))) .nil) .nil [.inl 0])))
  .nil))), .drop⟩
def t_is_plain : Ev.FnD := ⟨["kind"], [], ["kind", "each"],
  (.cons (.ret (.and_ (.cmp .NotIn (.idx (.var 0) (.k (.int 0))) (.tup (.cons (.k (.str "bag")) (.cons (.k (.str "fun")) .nil)))) (.blt .all (.cons (.comp false [("each", 1)] (.var 1) (.val (.sli (.var 0) (.some (.k (.int 1))) .none)) .none (.call "is_plain" (.cons (.var 1) .nil) .nil [.inl 0])) .nil))))
  .nil), .drop⟩
def t_is_data : Ev.FnD := ⟨["kind"], [], ["kind", "each"],
  (.cons (.ret (.and_ (.cmp .NotEq (.idx (.var 0) (.k (.int 0))) (.k (.str "fun"))) (.blt .all (.cons (.comp false [("each", 1)] (.var 1) (.val (.sli (.var 0) (.some (.k (.int 1))) .none)) .none (.call "is_data" (.cons (.var 1) .nil) .nil [.inl 0])) .nil))))
  .nil), .drop⟩
def t_is_group : Ev.FnD := ⟨["kind"], [], ["kind", "each"],
  (.cons (.ret (.or_ (.cmp .In (.idx (.var 0) (.k (.int 0))) (.tup (.cons (.k (.str "num")) (.cons (.k (.str "bag")) .nil)))) (.and_ (.cmp .Eq (.idx (.var 0) (.k (.int 0))) (.k (.str "pair"))) (.blt .all (.cons (.comp false [("each", 1)] (.var 1) (.val (.sli (.var 0) (.some (.k (.int 1))) .none)) .none (.call "is_group" (.cons (.var 1) .nil) .nil [.inl 0])) .nil)))))
  .nil), .drop⟩
def t_is_valued : Ev.FnD := ⟨["kind", "value"], [], ["kind", "value", "side"],
  (.cons (.if_ (.cmp .Eq (.idx (.var 0) (.k (.int 0))) (.k (.str "num")))
  (.cons (.ret (.call "is_whole" (.cons (.var 1) .nil) .nil [.inl 0]))
  .nil)
  .nil)
  (.cons (.if_ (.or_ (.cmp .Eq (.idx (.var 0) (.k (.int 0))) (.k (.str "fun"))) (.not_ (.blt .isi (.cons (.var 1) (.cons (.k (.ty "tuple")) .nil)))))
  (.cons (.ret (.k (.bl false)))
  .nil)
  .nil)
  (.cons (.if_ (.cmp .Eq (.idx (.var 0) (.k (.int 0))) (.k (.str "unit")))
  (.cons (.ret (.cmp .Eq (.var 1) (.tup .nil)))
  .nil)
  .nil)
  (.cons (.if_ (.cmp .Eq (.idx (.var 0) (.k (.int 0))) (.k (.str "bag")))
  (.cons (.ret (.call "are_counted" (.cons (.idx (.var 0) (.k (.int 1))) (.cons (.var 1) .nil)) .nil [.inl 0, .inl 1]))
  .nil)
  .nil)
  (.cons (.if_ (.or_ (.cmp .Lt (.blt .len (.cons (.var 1) .nil)) (.k (.int 2))) (.not_ (.blt .isi (.cons (.idx (.var 1) (.k (.int 0))) (.cons (.k (.ty "str")) .nil)))))
  (.cons (.ret (.k (.bl false)))
  .nil)
  .nil)
  (.cons (.if_ (.cmp .Eq (.idx (.var 0) (.k (.int 0))) (.k (.str "either")))
  (.cons (.asg (.var 2) (.met .get (.ddis false [(.str "left", .int 1), (.str "right", .int 2)]) (.cons (.idx (.var 1) (.k (.int 0))) (.cons (.k (.int 0)) .nil))))
  (.cons (.ret (.and_ (.cmp .Gt (.var 2) (.k (.int 0))) (.and_ (.cmp .Eq (.blt .len (.cons (.var 1) .nil)) (.k (.int 2))) (.call "is_valued" (.cons (.idx (.var 0) (.var 2)) (.cons (.idx (.var 1) (.k (.int 1))) .nil)) .nil [.inl 0, .inl 1]))))
  .nil))
  .nil)
  (.cons (.if_ (.or_ (.cmp .NotEq (.idx (.var 1) (.k (.int 0))) (.k (.str "pair"))) (.cmp .NotEq (.blt .len (.cons (.var 1) .nil)) (.k (.int 3))))
  (.cons (.ret (.k (.bl false)))
  .nil)
  .nil)
  (.cons (.ret (.and_ (.call "is_valued" (.cons (.idx (.var 0) (.k (.int 1))) (.cons (.idx (.var 1) (.k (.int 1))) .nil)) .nil [.inl 0, .inl 1]) (.call "is_valued" (.cons (.idx (.var 0) (.k (.int 2))) (.cons (.idx (.var 1) (.k (.int 2))) .nil)) .nil [.inl 0, .inl 1])))
  .nil)))))))), .drop⟩
def t_is_counted : Ev.FnD := ⟨["kind", "value"], [], ["kind", "value"],
  (.cons (.ret (.and_ (.blt .isi (.cons (.var 1) (.cons (.k (.ty "tuple")) .nil))) (.and_ (.cmp .Eq (.blt .len (.cons (.var 1) .nil)) (.k (.int 2))) (.and_ (.call "is_valued" (.cons (.var 0) (.cons (.idx (.var 1) (.k (.int 0))) .nil)) .nil [.inl 0, .inl 1]) (.call "is_whole" (.cons (.idx (.var 1) (.k (.int 1))) .nil) .nil [.inl 0])))))
  .nil), .drop⟩
def t_are_counted : Ev.FnD := ⟨["kind", "value"], [], ["kind", "value", "one", "two", "each"],
  (.cons (.if_ (.not_ (.blt .all (.cons (.comp false [("each", 4)] (.var 4) (.val (.var 1)) .none (.and_ (.call "is_counted" (.cons (.var 0) (.cons (.var 4) .nil)) .nil [.inl 0, .inl 1]) (.cmp .NotEq (.idx (.var 4) (.k (.int 1))) (.k (.int 0))))) .nil)))
  (.cons (.ret (.k (.bl false)))
  .nil)
  .nil)
  (.cons (.ret (.blt .all (.cons (.comp false [("one", 2), ("two", 3)] (.tup (.cons (.var 2) (.cons (.var 3) .nil))) (.zip (.var 1) (.sli (.var 1) (.some (.k (.int 1))) .none)) .none (.cmp .Lt (.idx (.var 2) (.k (.int 0))) (.idx (.var 3) (.k (.int 0))))) .nil)))
  .nil)), .drop⟩
def t_check_kind_that : Ev.FnD := ⟨["value", "is_right"], [], ["value", "is_right"],
  (.cons (.if_ (.or_ (.not_ (.call "is_kinded" (.cons (.var 0) .nil) .nil [.inl 0, .inr 0])) (.not_ (.cal 1 (.cons (.var 0) .nil))))
  (.cons .never
  .nil)
  .nil)
  .nil), .drop⟩
def t_check_data : Ev.FnD := ⟨["value"], [], ["value"],
  (.cons (.ex (.call "check_kind_that" (.cons (.var 0) (.cons (.k (.fn "is_data")) .nil)) .nil [.inl 0, .inl 1]))
  .nil), .drop⟩
def t_check_value : Ev.FnD := ⟨["kind", "value"], [], ["kind", "value"],
  (.cons (.if_ (.not_ (.call "is_valued" (.cons (.var 0) (.cons (.var 1) .nil)) .nil [.inl 0, .inl 1]))
  (.cons .never
  .nil)
  .nil)
  .nil), .drop⟩
def t_check_whole : Ev.FnD := ⟨["value"], [], ["value"],
  (.cons (.if_ (.not_ (.call "is_whole" (.cons (.var 0) .nil) .nil [.inl 0]))
  (.cons .never
  .nil)
  .nil)
  .nil), .drop⟩
def t_check_pairs : Ev.FnD := ⟨["kind", "value"], [], ["kind", "value", "index", "each"],
  (.cons (.if_ (.not_ (.blt .isi (.cons (.var 1) (.cons (.k (.ty "tuple")) .nil))))
  (.cons .never
  .nil)
  .nil)
  (.cons (.for_ (.tup (.cons (.var 2) (.cons (.var 3) .nil))) (.enum (.var 1))
  (.cons (.if_ (.not_ (.call "is_counted" (.cons (.var 0) (.cons (.var 3) .nil)) .nil [.inl 0, .inl 1]))
  (.cons .never
  .nil)
  .nil)
  .nil))
  .nil)), .drop⟩
def t_zero_by : Ev.FnD := ⟨["kind"], [], ["kind"],
  (.cons (.if_ (.cmp .Eq (.idx (.var 0) (.k (.int 0))) (.k (.str "num")))
  (.cons (.ret (.k (.int 0)))
  .nil)
  .nil)
  (.cons (.if_ (.cmp .Eq (.idx (.var 0) (.k (.int 0))) (.k (.str "bag")))
  (.cons (.ret (.tup .nil))
  .nil)
  .nil)
  (.cons (.ret (.tup (.cons (.k (.str "pair")) (.cons (.call "zero_by" (.cons (.idx (.var 0) (.k (.int 1))) .nil) .nil [.inl 0]) (.cons (.call "zero_by" (.cons (.idx (.var 0) (.k (.int 2))) .nil) .nil [.inl 0]) .nil)))))
  .nil))), .drop⟩
def t_is_paired : Ev.FnD := ⟨["value"], [], ["value"],
  (.cons (.ret (.and_ (.cmp .NotEq (.var 0) (.tup .nil)) (.cmp .Eq (.idx (.var 0) (.k (.int 0))) (.k (.str "pair")))))
  .nil), .drop⟩
def t_bag_by : Ev.FnD := ⟨["times"], [], ["times", "value"],
  (.cons (.ret (.blt .tuple (.cons (.comp false [("value", 1)] (.var 1) (.val (.blt .sorted (.cons (.var 0) .nil))) (.some (.cmp .NotEq (.idx (.var 0) (.var 1)) (.k (.int 0)))) (.tup (.cons (.var 1) (.cons (.idx (.var 0) (.var 1)) .nil)))) .nil)))
  .nil), .drop⟩
def t_sum_of_bags : Ev.FnD := ⟨["one", "two"], [], ["one", "two", "times", "value", "more"],
  (.cons (.asg (.var 2) (.blt .dict (.cons (.var 0) .nil)))
  (.cons (.for_ (.tup (.cons (.var 3) (.cons (.var 4) .nil))) (.val (.var 1))
  (.cons (.asg (.sub (.var 2) (.var 3)) (.bin .Add (.met .get (.var 2) (.cons (.var 3) (.cons (.k (.int 0)) .nil))) (.var 4)))
  .nil))
  (.cons (.ret (.call "bag_by" (.cons (.var 2) .nil) .nil [.inl 0]))
  .nil))), .drop⟩
def t_plus_by : Ev.FnD := ⟨["one", "two"], [], ["one", "two"],
  (.cons (.if_ (.blt .isi (.cons (.var 0) (.cons (.k (.ty "int")) .nil)))
  (.cons (.ret (.bin .Add (.var 0) (.var 1)))
  .nil)
  .nil)
  (.cons (.if_ (.call "is_paired" (.cons (.var 0) .nil) .nil [.inl 0])
  (.cons (.ret (.tup (.cons (.k (.str "pair")) (.cons (.call "plus_by" (.cons (.idx (.var 0) (.k (.int 1))) (.cons (.idx (.var 1) (.k (.int 1))) .nil)) .nil [.inl 0, .inl 1]) (.cons (.call "plus_by" (.cons (.idx (.var 0) (.k (.int 2))) (.cons (.idx (.var 1) (.k (.int 2))) .nil)) .nil [.inl 0, .inl 1]) .nil)))))
  .nil)
  .nil)
  (.cons (.ret (.call "sum_of_bags" (.cons (.var 0) (.cons (.var 1) .nil)) .nil [.inl 0, .inl 1]))
  .nil))), .drop⟩
def t_times_by : Ev.FnD := ⟨["number", "value"], [], ["number", "value", "each", "times"],
  (.cons (.if_ (.blt .isi (.cons (.var 1) (.cons (.k (.ty "int")) .nil)))
  (.cons (.ret (.bin .Mult (.var 0) (.var 1)))
  .nil)
  .nil)
  (.cons (.if_ (.call "is_paired" (.cons (.var 1) .nil) .nil [.inl 0])
  (.cons (.ret (.tup (.cons (.k (.str "pair")) (.cons (.call "times_by" (.cons (.var 0) (.cons (.idx (.var 1) (.k (.int 1))) .nil)) .nil [.inl 0, .inl 1]) (.cons (.call "times_by" (.cons (.var 0) (.cons (.idx (.var 1) (.k (.int 2))) .nil)) .nil [.inl 0, .inl 1]) .nil)))))
  .nil)
  .nil)
  (.cons (.ret (.ite (.cmp .NotEq (.var 0) (.k (.int 0))) (.blt .tuple (.cons (.comp false [("each", 2), ("times", 3)] (.tup (.cons (.var 2) (.cons (.var 3) .nil))) (.val (.var 1)) .none (.tup (.cons (.var 2) (.cons (.bin .Mult (.var 0) (.var 3)) .nil)))) .nil)) (.tup .nil)))
  .nil))), .drop⟩
def t_is_bag : Ev.FnD := ⟨["kind"], [], ["kind"],
  (.cons (.ret (.cmp .Eq (.idx (.var 0) (.k (.int 0))) (.k (.str "bag"))))
  .nil), .drop⟩
def t_is_value : Ev.FnD := ⟨["kind", "value"], [], ["kind", "value"],
  (.cons (.ex (.call "check_data" (.cons (.var 0) .nil) .nil [.inl 0]))
  (.cons (.ret (.call "is_valued" (.cons (.var 0) (.cons (.var 1) .nil)) .nil [.inl 0, .inl 1]))
  .nil)), .drop⟩
def t_order : Ev.FnD := ⟨["kind", "one", "two"], [], ["kind", "one", "two"],
  (.cons (.ex (.call "check_kind_that" (.cons (.var 0) (.cons (.k (.fn "is_plain")) .nil)) .nil [.inl 0, .inl 1]))
  (.cons (.ex (.call "check_value" (.cons (.var 0) (.cons (.var 1) .nil)) .nil [.inl 0, .inl 1]))
  (.cons (.ex (.call "check_value" (.cons (.var 0) (.cons (.var 2) .nil)) .nil [.inl 0, .inl 1]))
  (.cons (.if_ (.cmp .Eq (.var 1) (.var 2))
  (.cons (.ret (.k (.int 0)))
  .nil)
  .nil)
  (.cons (.ret (.ite (.cmp .Lt (.var 1) (.var 2)) (.una .USub (.k (.int 1))) (.k (.int 1))))
  .nil))))), .drop⟩
def t_zero_of : Ev.FnD := ⟨["kind"], [], ["kind"],
  (.cons (.ex (.call "check_kind_that" (.cons (.var 0) (.cons (.k (.fn "is_group")) .nil)) .nil [.inl 0, .inl 1]))
  (.cons (.ret (.call "zero_by" (.cons (.var 0) .nil) .nil [.inl 0]))
  .nil)), .drop⟩
def t_sum_of : Ev.FnD := ⟨["kind", "one", "two"], [], ["kind", "one", "two"],
  (.cons (.ex (.call "check_kind_that" (.cons (.var 0) (.cons (.k (.fn "is_group")) .nil)) .nil [.inl 0, .inl 1]))
  (.cons (.ex (.call "check_value" (.cons (.var 0) (.cons (.var 1) .nil)) .nil [.inl 0, .inl 1]))
  (.cons (.ex (.call "check_value" (.cons (.var 0) (.cons (.var 2) .nil)) .nil [.inl 0, .inl 1]))
  (.cons (.ret (.call "plus_by" (.cons (.var 1) (.cons (.var 2) .nil)) .nil [.inl 0, .inl 1]))
  .nil)))), .drop⟩
def t_opposite : Ev.FnD := ⟨["kind", "one"], [], ["kind", "one"],
  (.cons (.ex (.call "check_kind_that" (.cons (.var 0) (.cons (.k (.fn "is_group")) .nil)) .nil [.inl 0, .inl 1]))
  (.cons (.ex (.call "check_value" (.cons (.var 0) (.cons (.var 1) .nil)) .nil [.inl 0, .inl 1]))
  (.cons (.ret (.call "times_by" (.cons (.una .USub (.k (.int 1))) (.cons (.var 1) .nil)) .nil [.inl 0, .inl 1]))
  .nil))), .drop⟩
def t_many_of : Ev.FnD := ⟨["kind", "number", "one"], [], ["kind", "number", "one"],
  (.cons (.ex (.call "check_kind_that" (.cons (.var 0) (.cons (.k (.fn "is_group")) .nil)) .nil [.inl 0, .inl 1]))
  (.cons (.ex (.call "check_whole" (.cons (.var 1) .nil) .nil [.inl 0]))
  (.cons (.ex (.call "check_value" (.cons (.var 0) (.cons (.var 2) .nil)) .nil [.inl 0, .inl 1]))
  (.cons (.ret (.call "times_by" (.cons (.var 1) (.cons (.var 2) .nil)) .nil [.inl 0, .inl 1]))
  .nil)))), .drop⟩
def t_bag_of : Ev.FnD := ⟨["kind", "pairs"], [], ["kind", "pairs"],
  (.cons (.ex (.call "check_kind_that" (.cons (.var 0) (.cons (.k (.fn "is_bag")) .nil)) .nil [.inl 0, .inl 1]))
  (.cons (.ex (.call "check_pairs" (.cons (.idx (.var 0) (.k (.int 1))) (.cons (.var 1) .nil)) .nil [.inl 0, .inl 1]))
  (.cons (.ret (.call "sum_of_bags" (.cons (.tup .nil) (.cons (.var 1) .nil)) .nil [.inl 0, .inl 1]))
  .nil))), .drop⟩
def t_count_of : Ev.FnD := ⟨["kind", "bag", "value"], [], ["kind", "bag", "value"],
  (.cons (.ex (.call "check_kind_that" (.cons (.var 0) (.cons (.k (.fn "is_bag")) .nil)) .nil [.inl 0, .inl 1]))
  (.cons (.ex (.call "check_value" (.cons (.var 0) (.cons (.var 1) .nil)) .nil [.inl 0, .inl 1]))
  (.cons (.ex (.call "check_value" (.cons (.idx (.var 0) (.k (.int 1))) (.cons (.var 2) .nil)) .nil [.inl 0, .inl 1]))
  (.cons (.ret (.met .get (.blt .dict (.cons (.var 1) .nil)) (.cons (.var 2) (.cons (.k (.int 0)) .nil))))
  .nil)))), .drop⟩
def t_support_of : Ev.FnD := ⟨["kind", "bag"], [], ["kind", "bag", "each", "times"],
  (.cons (.ex (.call "check_kind_that" (.cons (.var 0) (.cons (.k (.fn "is_bag")) .nil)) .nil [.inl 0, .inl 1]))
  (.cons (.ex (.call "check_value" (.cons (.var 0) (.cons (.var 1) .nil)) .nil [.inl 0, .inl 1]))
  (.cons (.ret (.blt .tuple (.cons (.comp false [("each", 2), ("times", 3)] (.tup (.cons (.var 2) (.cons (.var 3) .nil))) (.val (.var 1)) (.some (.cmp .Gt (.var 3) (.k (.int 0)))) (.tup (.cons (.var 2) (.cons (.k (.int 1)) .nil)))) .nil)))
  .nil))), .drop⟩
def t__law_well : Ev.FnD := ⟨["_law_script", "_law_turn"], [], ["_law_script", "_law_turn", "_law_mixed", "_law_cell", "_law_own"],
  (.cons (.asg (.var 2) (.bin .Add (.k (.int 612049)) (.bin .Mult (.k (.int 8219)) (.var 1))))
  (.cons (.for_ (.var 3) (.val (.sli (.var 0) .none (.some (.k (.int 9)))))
  (.cons (.asg (.var 2) (.bin .Mod (.blt .int (.cons (.bin .Add (.bin .Add (.bin .Mult (.var 2) (.k (.int 50707))) (.bin .Mod (.blt .int (.cons (.var 3) .nil)) (.k (.int 2147483587)))) (.k (.int 9))) .nil)) (.k (.int 2147483563))))
  .nil))
  (.cons (.asg (.var 4) (.ite (.cmp .Lt (.var 1) (.blt .len (.cons (.var 0) .nil))) (.blt .int (.cons (.idx (.var 0) (.var 1)) .nil)) (.k (.int 0))))
  (.cons (.asg (.var 2) (.bin .Mod (.blt .int (.cons (.bin .Add (.bin .Add (.bin .Mult (.var 2) (.k (.int 41))) (.bin .Mult (.bin .Mod (.blt .int (.cons (.var 4) .nil)) (.k (.int 2147483587))) (.k (.int 20047)))) (.k (.int 7))) .nil)) (.k (.int 2147483563))))
  (.cons (.ret (.lst true (.cons (.ite (.or_ (.cmp .Lt (.var 4) (.k (.int 0))) (.cmp .GtE (.var 4) (.bin .Pow (.k (.int 10)) (.k (.int 14))))) (.blt .abs (.cons (.var 4) .nil)) (.k (.int 0))) (.cons (.var 2) (.cons (.k (.int 0)) (.cons (.k (.int 2)) .nil))))))
  .nil))))), .keep⟩
def t__law_draw : Ev.FnD := ⟨["_law_well_here", "_law_many_here"], [], ["_law_well_here", "_law_many_here", "_law_seed", "_law_figure"],
  (.cons (.if_ (.cmp .Gt (.idx (.var 0) (.k (.int 0))) (.k (.int 0)))
  (.cons (.asg (.tup (.cons (.sub (.var 0) (.k (.int 0))) (.cons (.var 3) .nil))) (.blt .divmod (.cons (.idx (.var 0) (.k (.int 0))) (.cons (.var 1) .nil))))
  (.cons (.ret (.var 3))
  .nil))
  .nil)
  (.cons (.asg (.sub (.var 0) (.k (.int 2))) (.bin .Add (.idx (.var 0) (.k (.int 2))) (.k (.int 1))))
  (.cons (.asg (.var 2) (.bin .Mod (.blt .int (.cons (.bin .Add (.idx (.var 0) (.k (.int 1))) (.bin .Mult (.k (.int 60017)) (.idx (.var 0) (.k (.int 2))))) .nil)) (.k (.int 2147483563))))
  (.cons (.asg (.sub (.var 0) (.k (.int 1))) (.bin .Mod (.blt .int (.cons (.bin .Add (.bin .Mult (.var 2) (.bin .Add (.bin .Mod (.blt .int (.cons (.var 2) .nil)) (.k (.int 5003))) (.k (.int 40013)))) (.bin .Mult (.k (.int 37)) (.idx (.var 0) (.k (.int 2))))) .nil)) (.k (.int 2147483563))))
  (.cons (.ret (.bin .Mod (.blt .int (.cons (.bin .FloorDiv (.idx (.var 0) (.k (.int 1))) (.k (.int 647))) .nil)) (.var 1)))
  .nil))))), .drop⟩
def t__law_pick : Ev.FnD := ⟨["_law_well_here", "_law_some"], [], ["_law_well_here", "_law_some"],
  (.cons (.ret (.idx (.var 1) (.call "_law_draw" (.cons (.var 0) (.cons (.blt .len (.cons (.var 1) .nil)) .nil)) .nil [.inl 0, .inl 1])))
  .nil), .drop⟩
def t__law_same : Ev.FnD := ⟨["_law_told", "_law_due"], [], ["_law_told", "_law_due"],
  (.cons (.ret (.cmp .Eq (.blt .repr (.cons (.var 0) .nil)) (.blt .repr (.cons (.var 1) .nil))))
  .nil), .drop⟩
def t__law_odd : Ev.FnD := ⟨["_law_well_here"], [], ["_law_well_here", "_law_some", "_law_more", "_law_ends"],
  (.cons (.asg (.var 1) (.tup (.cons (.k (.non)) (.cons (.k (.bl true)) (.cons (.k (.bl false)) (.cons (.k (.int 0)) (.cons (.k (.int 1)) (.cons (.una .USub (.k (.int 1))) (.cons (.k (.int 7)) (.cons (.bin .Pow (.k (.int 10)) (.k (.int 30))) (.cons (.k (.str "")) (.cons (.k (.str "num")) (.cons (.k (.str "x")) (.cons (.k (.str "let")) (.cons (.k (.str "unit")) (.cons (.tup .nil) (.cons (.tup (.cons (.k (.int 0)) .nil)) (.cons (.tup (.cons (.k (.str "num")) .nil)) (.cons (.tup (.cons (.k (.str "unit")) (.cons (.k (.int 1)) .nil))) .nil)))))))))))))))))))
  (.cons (.asg (.var 2) (.tup (.cons (.tup (.cons (.k (.str "pair")) (.cons (.tup (.cons (.k (.str "num")) .nil)) .nil))) (.cons (.tup (.cons (.k (.str "bag")) .nil)) (.cons (.tup (.cons (.k (.str "bag")) (.cons (.tup (.cons (.k (.str "bag")) (.cons (.tup (.cons (.k (.str "num")) .nil)) .nil))) .nil))) (.cons (.tup (.cons (.k (.str "name")) (.cons (.k (.str "x")) .nil))) (.cons (.tup (.cons (.k (.str "name")) (.cons (.k (.str "let")) .nil))) (.cons (.tup (.cons (.k (.str "number")) (.cons (.k (.bl true)) .nil))) .nil))))))))
  (.cons (.asg (.var 3) (.tup (.cons (.tup (.cons (.k (.str "fun")) (.cons (.tup (.cons (.k (.str "num")) .nil)) (.cons (.tup (.cons (.k (.str "num")) .nil)) .nil)))) (.cons (.lst false .nil) (.cons (.lst false (.cons (.k (.int 1)) .nil)) (.cons (.dnew false) (.cons (.k (.str "1x")) (.cons (.tup (.cons (.k (.str "left")) (.cons (.k (.int 1)) .nil))) (.cons (.tup (.cons (.tup (.cons (.k (.str "num")) .nil)) (.cons (.k (.int 2)) .nil))) (.cons (.k (.str "x'")) (.cons (.tup (.cons (.k (.str "name")) (.cons (.k (.str "x'")) .nil))) .nil)))))))))))
  (.cons (.ret (.call "_law_pick" (.cons (.var 0) (.cons (.bin .Add (.bin .Add (.var 1) (.var 2)) (.var 3)) .nil)) .nil [.inl 0, .inl 1]))
  .nil)))), .drop⟩
def t__law_number : Ev.FnD := ⟨["_law_well_here"], [], ["_law_well_here", "_law_branch"],
  (.cons (.asg (.var 1) (.call "_law_draw" (.cons (.var 0) (.cons (.k (.int 9)) .nil)) .nil [.inl 0, .inl 1]))
  (.cons (.if_ (.and_ (.cmp .Eq (.var 1) (.k (.int 8))) (.cmp .Gt (.idx (.var 0) (.k (.int 3))) (.k (.int 0))))
  (.cons (.asg (.sub (.var 0) (.k (.int 3))) (.bin .Sub (.idx (.var 0) (.k (.int 3))) (.k (.int 1))))
  (.cons (.ret (.call "_law_pick" (.cons (.var 0) (.cons (.tup (.cons (.bin .Pow (.k (.int 10)) (.k (.int 20))) (.cons (.bin .Sub (.k (.int 1)) (.bin .Pow (.k (.int 10)) (.k (.int 20)))) (.cons (.k (.int 65536)) (.cons (.una .USub (.k (.int 4096))) (.cons (.k (.int 123456789)) (.cons (.bin .Add (.bin .Pow (.k (.int 10)) (.k (.int 15))) (.k (.int 7))) .nil))))))) .nil)) .nil [.inl 0, .inl 1]))
  .nil))
  .nil)
  (.cons (.ret (.ite (.cmp .Lt (.var 1) (.k (.int 4))) (.call "_law_draw" (.cons (.var 0) (.cons (.k (.int 4)) .nil)) .nil [.inl 0, .inl 1]) (.bin .Sub (.call "_law_draw" (.cons (.var 0) (.cons (.k (.int 19)) .nil)) .nil [.inl 0, .inl 1]) (.k (.int 9)))))
  .nil))), .drop⟩
def t__law_plain : Ev.FnD := ⟨["_law_well_here", "_law_deep"], [], ["_law_well_here", "_law_deep", "_law_branch", "_law_one"],
  (.cons (.asg (.var 2) (.ite (.cmp .Gt (.var 1) (.k (.int 1))) (.call "_law_draw" (.cons (.var 0) (.cons (.k (.int 7)) .nil)) .nil [.inl 0, .inl 1]) (.call "_law_draw" (.cons (.var 0) (.cons (.k (.int 4)) .nil)) .nil [.inl 0, .inl 1])))
  (.cons (.if_ (.cmp .Lt (.var 2) (.k (.int 4)))
  (.cons (.ret (.ite (.cmp .Eq (.var 2) (.k (.int 3))) (.tup (.cons (.k (.str "unit")) .nil)) (.tup (.cons (.k (.str "num")) .nil))))
  .nil)
  .nil)
  (.cons (.asg (.var 3) (.call "_law_plain" (.cons (.var 0) (.cons (.bin .Sub (.var 1) (.k (.int 1))) .nil)) .nil [.inl 0, .inl 1]))
  (.cons (.ret (.tup (.cons (.ite (.cmp .Lt (.var 2) (.k (.int 6))) (.k (.str "pair")) (.k (.str "either"))) (.cons (.var 3) (.cons (.call "_law_plain" (.cons (.var 0) (.cons (.bin .Sub (.var 1) (.k (.int 1))) .nil)) .nil [.inl 0, .inl 1]) .nil)))))
  .nil)))), .drop⟩
def t__law_group : Ev.FnD := ⟨["_law_well_here", "_law_deep"], [], ["_law_well_here", "_law_deep", "_law_branch", "_law_one"],
  (.cons (.asg (.var 2) (.ite (.cmp .Gt (.var 1) (.k (.int 1))) (.call "_law_draw" (.cons (.var 0) (.cons (.k (.int 6)) .nil)) .nil [.inl 0, .inl 1]) (.k (.int 0))))
  (.cons (.if_ (.cmp .Lt (.var 2) (.k (.int 2)))
  (.cons (.ret (.tup (.cons (.k (.str "num")) .nil)))
  .nil)
  .nil)
  (.cons (.if_ (.cmp .Lt (.var 2) (.k (.int 4)))
  (.cons (.ret (.tup (.cons (.k (.str "bag")) (.cons (.call "_law_plain" (.cons (.var 0) (.cons (.bin .Sub (.var 1) (.k (.int 1))) .nil)) .nil [.inl 0, .inl 1]) .nil))))
  .nil)
  .nil)
  (.cons (.asg (.var 3) (.call "_law_group" (.cons (.var 0) (.cons (.bin .Sub (.var 1) (.k (.int 1))) .nil)) .nil [.inl 0, .inl 1]))
  (.cons (.ret (.tup (.cons (.k (.str "pair")) (.cons (.var 3) (.cons (.call "_law_group" (.cons (.var 0) (.cons (.bin .Sub (.var 1) (.k (.int 1))) .nil)) .nil [.inl 0, .inl 1]) .nil)))))
  .nil))))), .drop⟩
def t__law_data : Ev.FnD := ⟨["_law_well_here", "_law_deep"], [], ["_law_well_here", "_law_deep", "_law_branch", "_law_one"],
  (.cons (.asg (.var 2) (.ite (.cmp .Gt (.var 1) (.k (.int 1))) (.call "_law_draw" (.cons (.var 0) (.cons (.k (.int 8)) .nil)) .nil [.inl 0, .inl 1]) (.call "_law_draw" (.cons (.var 0) (.cons (.k (.int 4)) .nil)) .nil [.inl 0, .inl 1])))
  (.cons (.if_ (.cmp .Lt (.var 2) (.k (.int 4)))
  (.cons (.ret (.ite (.cmp .Eq (.var 2) (.k (.int 3))) (.tup (.cons (.k (.str "unit")) .nil)) (.tup (.cons (.k (.str "num")) .nil))))
  .nil)
  .nil)
  (.cons (.if_ (.cmp .Lt (.var 2) (.k (.int 6)))
  (.cons (.ret (.tup (.cons (.k (.str "bag")) (.cons (.call "_law_plain" (.cons (.var 0) (.cons (.bin .Sub (.var 1) (.k (.int 1))) .nil)) .nil [.inl 0, .inl 1]) .nil))))
  .nil)
  .nil)
  (.cons (.asg (.var 3) (.call "_law_data" (.cons (.var 0) (.cons (.bin .Sub (.var 1) (.k (.int 1))) .nil)) .nil [.inl 0, .inl 1]))
  (.cons (.ret (.tup (.cons (.ite (.cmp .Eq (.var 2) (.k (.int 6))) (.k (.str "pair")) (.k (.str "either"))) (.cons (.var 3) (.cons (.call "_law_data" (.cons (.var 0) (.cons (.bin .Sub (.var 1) (.k (.int 1))) .nil)) .nil [.inl 0, .inl 1]) .nil)))))
  .nil))))), .drop⟩
def t__law_is_whole : Ev.FnD := ⟨["_law_thing"], [], ["_law_thing"],
  (.cons (.ret (.and_ (.blt .isi (.cons (.var 0) (.cons (.k (.ty "int")) .nil))) (.not_ (.blt .isi (.cons (.var 0) (.cons (.k (.ty "bool")) .nil))))))
  .nil), .drop⟩
def t__law_is_headed : Ev.FnD := ⟨["_law_thing", "_law_many_here"], [], ["_law_thing", "_law_many_here"],
  (.cons (.ret (.and_ (.blt .isi (.cons (.var 0) (.cons (.k (.ty "tuple")) .nil))) (.and_ (.cmp .Eq (.blt .len (.cons (.var 0) .nil)) (.var 1)) (.blt .isi (.cons (.idx (.var 0) (.k (.int 0))) (.cons (.k (.ty "str")) .nil))))))
  .nil), .drop⟩
def t__law_order : Ev.FnD := ⟨["_law_kind", "_law_one", "_law_two"], [], ["_law_kind", "_law_one", "_law_two", "_law_found"],
  (.cons (.if_ (.cmp .Eq (.idx (.var 0) (.k (.int 0))) (.k (.str "unit")))
  (.cons (.ret (.k (.int 0)))
  .nil)
  .nil)
  (.cons (.if_ (.cmp .Eq (.idx (.var 0) (.k (.int 0))) (.k (.str "num")))
  (.cons (.ret (.bin .Sub (.blt .int (.cons (.cmp .Gt (.var 1) (.var 2)) .nil)) (.blt .int (.cons (.cmp .Lt (.var 1) (.var 2)) .nil))))
  .nil)
  .nil)
  (.cons (.if_ (.cmp .Eq (.idx (.var 0) (.k (.int 0))) (.k (.str "pair")))
  (.cons (.asg (.var 3) (.call "_law_order" (.cons (.idx (.var 0) (.k (.int 1))) (.cons (.idx (.var 1) (.k (.int 1))) (.cons (.idx (.var 2) (.k (.int 1))) .nil))) .nil [.inl 0, .inl 1, .inl 2]))
  (.cons (.ret (.ite (.cmp .NotEq (.var 3) (.k (.int 0))) (.var 3) (.call "_law_order" (.cons (.idx (.var 0) (.k (.int 2))) (.cons (.idx (.var 1) (.k (.int 2))) (.cons (.idx (.var 2) (.k (.int 2))) .nil))) .nil [.inl 0, .inl 1, .inl 2])))
  .nil))
  .nil)
  (.cons (.if_ (.cmp .NotEq (.idx (.var 1) (.k (.int 0))) (.idx (.var 2) (.k (.int 0))))
  (.cons (.ret (.ite (.cmp .Eq (.idx (.var 1) (.k (.int 0))) (.k (.str "left"))) (.una .USub (.k (.int 1))) (.k (.int 1))))
  .nil)
  .nil)
  (.cons (.ret (.call "_law_order" (.cons (.ite (.cmp .Eq (.idx (.var 1) (.k (.int 0))) (.k (.str "left"))) (.idx (.var 0) (.k (.int 1))) (.idx (.var 0) (.k (.int 2)))) (.cons (.idx (.var 1) (.k (.int 1))) (.cons (.idx (.var 2) (.k (.int 1))) .nil))) .nil [.inl 0, .inl 1, .inl 2]))
  .nil))))), .drop⟩
def t__law_bag : Ev.FnD := ⟨["_law_kind", "_law_pairs"], [], ["_law_kind", "_law_pairs", "_law_found", "_law_thing", "_law_times", "_law_sides", "_law_at", "_law_each"],
  (.cons (.asg (.var 2) (.lst true .nil))
  (.cons (.for_ (.tup (.cons (.var 3) (.cons (.var 4) .nil))) (.val (.var 1))
  (.cons (.asg (.var 5) (.comp false [("_law_each", 7)] (.var 7) (.val (.var 2)) .none (.call "_law_order" (.cons (.var 0) (.cons (.idx (.var 7) (.k (.int 0))) (.cons (.var 3) .nil))) .nil [.inl 0, .inl 1, .inl 2])))
  (.cons (.asg (.var 6) (.met .count (.var 5) (.cons (.una .USub (.k (.int 1))) .nil)))
  (.cons (.if_ (.cmp .In (.k (.int 0)) (.var 5))
  (.cons (.asg (.sub (.var 2) (.var 6)) (.tup (.cons (.var 3) (.cons (.bin .Add (.idx (.idx (.var 2) (.var 6)) (.k (.int 1))) (.var 4)) .nil))))
  .nil)
  (.cons (.ex (.met .insert (.var 2) (.cons (.var 6) (.cons (.tup (.cons (.var 3) (.cons (.var 4) .nil))) .nil))))
  .nil))
  .nil))))
  (.cons (.ret (.blt .tuple (.cons (.comp false [("_law_each", 7)] (.var 7) (.val (.var 2)) (.some (.cmp .NotEq (.idx (.var 7) (.k (.int 1))) (.k (.int 0)))) (.var 7)) .nil)))
  .nil))), .drop⟩
def t__law_value : Ev.FnD := ⟨["_law_well_here", "_law_kind"], [], ["_law_well_here", "_law_kind", "_law_found", "_law_lap", "_law_one", "_law_side", "_law_thing"],
  (.cons (.if_ (.cmp .Eq (.idx (.var 1) (.k (.int 0))) (.k (.str "unit")))
  (.cons (.ret (.tup .nil))
  .nil)
  .nil)
  (.cons (.if_ (.cmp .Eq (.idx (.var 1) (.k (.int 0))) (.k (.str "num")))
  (.cons (.ret (.call "_law_number" (.cons (.var 0) .nil) .nil [.inl 0]))
  .nil)
  .nil)
  (.cons (.if_ (.cmp .Eq (.idx (.var 1) (.k (.int 0))) (.k (.str "pair")))
  (.cons (.asg (.var 4) (.call "_law_value" (.cons (.var 0) (.cons (.idx (.var 1) (.k (.int 1))) .nil)) .nil [.inl 0, .inl 1]))
  (.cons (.ret (.tup (.cons (.k (.str "pair")) (.cons (.var 4) (.cons (.call "_law_value" (.cons (.var 0) (.cons (.idx (.var 1) (.k (.int 2))) .nil)) .nil [.inl 0, .inl 1]) .nil)))))
  .nil))
  .nil)
  (.cons (.if_ (.cmp .Eq (.idx (.var 1) (.k (.int 0))) (.k (.str "either")))
  (.cons (.asg (.var 5) (.call "_law_draw" (.cons (.var 0) (.cons (.k (.int 2)) .nil)) .nil [.inl 0, .inl 1]))
  (.cons (.ret (.tup (.cons (.idx (.tup (.cons (.k (.str "left")) (.cons (.k (.str "right")) .nil))) (.var 5)) (.cons (.call "_law_value" (.cons (.var 0) (.cons (.idx (.var 1) (.bin .Add (.k (.int 1)) (.var 5))) .nil)) .nil [.inl 0, .inl 1]) .nil))))
  .nil))
  .nil)
  (.cons (.asg (.var 2) (.lst true .nil))
  (.cons (.for_ (.var 3) (.rng1 (.call "_law_draw" (.cons (.var 0) (.cons (.k (.int 5)) .nil)) .nil [.inl 0, .inl 1]))
  (.cons (.asg (.var 6) (.call "_law_value" (.cons (.var 0) (.cons (.idx (.var 1) (.k (.int 1))) .nil)) .nil [.inl 0, .inl 1]))
  (.cons (.ex (.met .append (.var 2) (.cons (.tup (.cons (.var 6) (.cons (.call "_law_pick" (.cons (.var 0) (.cons (.tup (.cons (.k (.int 1)) (.cons (.k (.int 2)) (.cons (.una .USub (.k (.int 1))) (.cons (.k (.int 1)) (.cons (.k (.int 3)) (.cons (.una .USub (.k (.int 2))) (.cons (.una .USub (.k (.int 3))) (.cons (.k (.int 4)) .nil))))))))) .nil)) .nil [.inl 0, .inl 1]) .nil))) .nil)))
  .nil)))
  (.cons (.ret (.call "_law_bag" (.cons (.idx (.var 1) (.k (.int 1))) (.cons (.var 2) .nil)) .nil [.inl 0, .inl 1]))
  .nil))))))), .drop⟩
def t__law_is_value : Ev.FnD := ⟨["_law_kind", "_law_thing"], [], ["_law_kind", "_law_thing"],
  (.cons (.if_ (.cmp .Eq (.idx (.var 0) (.k (.int 0))) (.k (.str "unit")))
  (.cons (.ret (.and_ (.blt .isi (.cons (.var 1) (.cons (.k (.ty "tuple")) .nil))) (.cmp .Eq (.blt .len (.cons (.var 1) .nil)) (.k (.int 0)))))
  .nil)
  .nil)
  (.cons (.if_ (.cmp .Eq (.idx (.var 0) (.k (.int 0))) (.k (.str "num")))
  (.cons (.ret (.call "_law_is_whole" (.cons (.var 1) .nil) .nil [.inl 0]))
  .nil)
  .nil)
  (.cons (.if_ (.cmp .Eq (.idx (.var 0) (.k (.int 0))) (.k (.str "pair")))
  (.cons (.if_ (.or_ (.not_ (.call "_law_is_headed" (.cons (.var 1) (.cons (.k (.int 3)) .nil)) .nil [.inl 0, .inl 1])) (.cmp .NotEq (.idx (.var 1) (.k (.int 0))) (.k (.str "pair"))))
  (.cons (.ret (.k (.bl false)))
  .nil)
  .nil)
  (.cons (.ret (.and_ (.call "_law_is_value" (.cons (.idx (.var 0) (.k (.int 1))) (.cons (.idx (.var 1) (.k (.int 1))) .nil)) .nil [.inl 0, .inl 1]) (.call "_law_is_value" (.cons (.idx (.var 0) (.k (.int 2))) (.cons (.idx (.var 1) (.k (.int 2))) .nil)) .nil [.inl 0, .inl 1])))
  .nil))
  .nil)
  (.cons (.if_ (.cmp .Eq (.idx (.var 0) (.k (.int 0))) (.k (.str "either")))
  (.cons (.if_ (.or_ (.not_ (.call "_law_is_headed" (.cons (.var 1) (.cons (.k (.int 2)) .nil)) .nil [.inl 0, .inl 1])) (.cmp .NotIn (.idx (.var 1) (.k (.int 0))) (.tup (.cons (.k (.str "left")) (.cons (.k (.str "right")) .nil)))))
  (.cons (.ret (.k (.bl false)))
  .nil)
  .nil)
  (.cons (.ret (.call "_law_is_value" (.cons (.ite (.cmp .Eq (.idx (.var 1) (.k (.int 0))) (.k (.str "left"))) (.idx (.var 0) (.k (.int 1))) (.idx (.var 0) (.k (.int 2)))) (.cons (.idx (.var 1) (.k (.int 1))) .nil)) .nil [.inl 0, .inl 1]))
  .nil))
  .nil)
  (.cons (.ret (.call "_law_is_bag" (.cons (.idx (.var 0) (.k (.int 1))) (.cons (.var 1) .nil)) .nil [.inl 0, .inl 1]))
  .nil))))), .drop⟩
def t__law_is_bag : Ev.FnD := ⟨["_law_kind", "_law_thing"], [], ["_law_kind", "_law_thing", "_law_pair", "_law_at"],
  (.cons (.if_ (.not_ (.blt .isi (.cons (.var 1) (.cons (.k (.ty "tuple")) .nil))))
  (.cons (.ret (.k (.bl false)))
  .nil)
  .nil)
  (.cons (.for_ (.var 2) (.val (.var 1))
  (.cons (.if_ (.or_ (.not_ (.blt .isi (.cons (.var 2) (.cons (.k (.ty "tuple")) .nil)))) (.or_ (.cmp .NotEq (.blt .len (.cons (.var 2) .nil)) (.k (.int 2))) (.not_ (.call "_law_is_value" (.cons (.var 0) (.cons (.idx (.var 2) (.k (.int 0))) .nil)) .nil [.inl 0, .inl 1]))))
  (.cons (.ret (.k (.bl false)))
  .nil)
  .nil)
  (.cons (.if_ (.or_ (.not_ (.call "_law_is_whole" (.cons (.idx (.var 2) (.k (.int 1))) .nil) .nil [.inl 0])) (.cmp .Eq (.idx (.var 2) (.k (.int 1))) (.k (.int 0))))
  (.cons (.ret (.k (.bl false)))
  .nil)
  .nil)
  .nil)))
  (.cons (.ret (.cmp .Eq (.comp false [("_law_at", 3)] (.var 3) (.rng2 (.k (.int 1)) (.blt .len (.cons (.var 1) .nil))) (.some (.cmp .GtE (.call "_law_order" (.cons (.var 0) (.cons (.idx (.idx (.var 1) (.bin .Sub (.var 3) (.k (.int 1)))) (.k (.int 0))) (.cons (.idx (.idx (.var 1) (.var 3)) (.k (.int 0))) .nil))) .nil [.inl 0, .inl 1, .inl 2]) (.k (.int 0)))) (.var 3)) (.lst false .nil)))
  .nil))), .drop⟩
def t__law_zero : Ev.FnD := ⟨["_law_kind"], [], ["_law_kind"],
  (.cons (.if_ (.cmp .Eq (.idx (.var 0) (.k (.int 0))) (.k (.str "pair")))
  (.cons (.ret (.tup (.cons (.k (.str "pair")) (.cons (.call "_law_zero" (.cons (.idx (.var 0) (.k (.int 1))) .nil) .nil [.inl 0]) (.cons (.call "_law_zero" (.cons (.idx (.var 0) (.k (.int 2))) .nil) .nil [.inl 0]) .nil)))))
  .nil)
  .nil)
  (.cons (.ret (.ite (.cmp .Eq (.idx (.var 0) (.k (.int 0))) (.k (.str "num"))) (.k (.int 0)) (.tup .nil)))
  .nil)), .drop⟩
def t__law_sum : Ev.FnD := ⟨["_law_kind", "_law_one", "_law_two"], [], ["_law_kind", "_law_one", "_law_two"],
  (.cons (.if_ (.cmp .Eq (.idx (.var 0) (.k (.int 0))) (.k (.str "num")))
  (.cons (.ret (.bin .Add (.var 1) (.var 2)))
  .nil)
  .nil)
  (.cons (.if_ (.cmp .Eq (.idx (.var 0) (.k (.int 0))) (.k (.str "bag")))
  (.cons (.ret (.call "_law_bag" (.cons (.idx (.var 0) (.k (.int 1))) (.cons (.bin .Add (.var 1) (.var 2)) .nil)) .nil [.inl 0, .inl 1]))
  .nil)
  .nil)
  (.cons (.ret (.tup (.cons (.k (.str "pair")) (.cons (.call "_law_sum" (.cons (.idx (.var 0) (.k (.int 1))) (.cons (.idx (.var 1) (.k (.int 1))) (.cons (.idx (.var 2) (.k (.int 1))) .nil))) .nil [.inl 0, .inl 1, .inl 2]) (.cons (.call "_law_sum" (.cons (.idx (.var 0) (.k (.int 2))) (.cons (.idx (.var 1) (.k (.int 2))) (.cons (.idx (.var 2) (.k (.int 2))) .nil))) .nil [.inl 0, .inl 1, .inl 2]) .nil)))))
  .nil))), .drop⟩
def t__law_many : Ev.FnD := ⟨["_law_kind", "_law_times", "_law_one"], [], ["_law_kind", "_law_times", "_law_one", "_law_thing", "_law_often"],
  (.cons (.if_ (.cmp .Eq (.idx (.var 0) (.k (.int 0))) (.k (.str "num")))
  (.cons (.ret (.bin .Mult (.var 1) (.var 2)))
  .nil)
  .nil)
  (.cons (.if_ (.cmp .Eq (.idx (.var 0) (.k (.int 0))) (.k (.str "bag")))
  (.cons (.ret (.ite (.cmp .NotEq (.var 1) (.k (.int 0))) (.blt .tuple (.cons (.comp false [("_law_thing", 3), ("_law_often", 4)] (.tup (.cons (.var 3) (.cons (.var 4) .nil))) (.val (.var 2)) .none (.tup (.cons (.var 3) (.cons (.bin .Mult (.var 1) (.var 4)) .nil)))) .nil)) (.tup .nil)))
  .nil)
  .nil)
  (.cons (.ret (.tup (.cons (.k (.str "pair")) (.cons (.call "_law_many" (.cons (.idx (.var 0) (.k (.int 1))) (.cons (.var 1) (.cons (.idx (.var 2) (.k (.int 1))) .nil))) .nil [.inl 0, .inl 1, .inl 2]) (.cons (.call "_law_many" (.cons (.idx (.var 0) (.k (.int 2))) (.cons (.var 1) (.cons (.idx (.var 2) (.k (.int 2))) .nil))) .nil [.inl 0, .inl 1, .inl 2]) .nil)))))
  .nil))), .drop⟩
def t__law_bent : Ev.FnD := ⟨["_law_well_here", "_law_thing"], [], ["_law_well_here", "_law_thing", "_law_way", "_law_at"],
  (.cons (.asg (.var 2) (.call "_law_draw" (.cons (.var 0) (.cons (.k (.int 8)) .nil)) .nil [.inl 0, .inl 1]))
  (.cons (.if_ (.and_ (.cmp .Lt (.var 2) (.k (.int 2))) (.call "_law_is_whole" (.cons (.var 1) .nil) .nil [.inl 0]))
  (.cons (.ret (.bin .Add (.var 1) (.ite (.cmp .Eq (.var 2) (.k (.int 0))) (.k (.int 1)) (.una .USub (.k (.int 1))))))
  .nil)
  .nil)
  (.cons (.if_ (.or_ (.cmp .Lt (.var 2) (.k (.int 3))) (.or_ (.not_ (.blt .isi (.cons (.var 1) (.cons (.k (.ty "tuple")) .nil)))) (.cmp .Eq (.var 1) (.tup .nil))))
  (.cons (.ret (.call "_law_odd" (.cons (.var 0) .nil) .nil [.inl 0]))
  .nil)
  .nil)
  (.cons (.asg (.var 3) (.call "_law_draw" (.cons (.var 0) (.cons (.blt .len (.cons (.var 1) .nil)) .nil)) .nil [.inl 0, .inl 1]))
  (.cons (.if_ (.cmp .Eq (.var 2) (.k (.int 3)))
  (.cons (.ret (.bin .Add (.sli (.var 1) .none (.some (.var 3))) (.sli (.var 1) (.some (.bin .Add (.var 3) (.k (.int 1)))) .none)))
  .nil)
  .nil)
  (.cons (.if_ (.cmp .Eq (.var 2) (.k (.int 4)))
  (.cons (.ret (.bin .Add (.bin .Add (.sli (.var 1) .none (.some (.var 3))) (.tup (.cons (.idx (.var 1) (.var 3)) .nil))) (.sli (.var 1) (.some (.var 3)) .none)))
  .nil)
  .nil)
  (.cons (.if_ (.cmp .Eq (.var 2) (.k (.int 5)))
  (.cons (.ret (.bin .Add (.var 1) (.tup (.cons (.call "_law_odd" (.cons (.var 0) .nil) .nil [.inl 0]) .nil))))
  .nil)
  .nil)
  (.cons (.ret (.ite (.cmp .Eq (.var 2) (.k (.int 6))) (.rev (.var 1)) (.blt .list (.cons (.var 1) .nil))))
  .nil)))))))), .drop⟩
def t__law_spoilt : Ev.FnD := ⟨["_law_well_here", "_law_thing"], [], ["_law_well_here", "_law_thing", "_law_path", "_law_here", "_law_turn", "_law_whole", "_law_at"],
  (.cons (.par [2, 3] (.cons (.lst true .nil) (.cons (.var 1) .nil)))
  (.cons (.for_ (.var 4) (.rng1 (.call "_law_draw" (.cons (.var 0) (.cons (.k (.int 6)) .nil)) .nil [.inl 0, .inl 1]))
  (.cons (.if_ (.or_ (.not_ (.blt .isi (.cons (.var 3) (.cons (.k (.ty "tuple")) .nil)))) (.cmp .Eq (.var 3) (.tup .nil)))
  (.cons .brk
  .nil)
  .nil)
  (.cons (.asg (.var 6) (.call "_law_draw" (.cons (.var 0) (.cons (.blt .len (.cons (.var 3) .nil)) .nil)) .nil [.inl 0, .inl 1]))
  (.cons (.ex (.met .append (.var 2) (.cons (.tup (.cons (.var 3) (.cons (.var 6) .nil))) .nil)))
  (.cons (.asg (.var 3) (.idx (.var 3) (.var 6)))
  .nil)))))
  (.cons (.asg (.var 3) (.call "_law_bent" (.cons (.var 0) (.cons (.var 3) .nil)) .nil [.inl 0, .inl 1]))
  (.cons (.for_ (.tup (.cons (.var 5) (.cons (.var 6) .nil))) (.val (.rev (.var 2)))
  (.cons (.asg (.var 3) (.bin .Add (.bin .Add (.sli (.var 5) .none (.some (.var 6))) (.tup (.cons (.var 3) .nil))) (.sli (.var 5) (.some (.bin .Add (.var 6) (.k (.int 1)))) .none)))
  .nil))
  (.cons (.ret (.var 3))
  .nil))))), .drop⟩
def t__law_are_values : Ev.FnD := ⟨["_law_well_here"], [], ["_law_well_here", "_law_kind", "_law_one", "_law_other", "_law_things", "_law_lap", "_law_thing"],
  (.cons (.asg (.var 1) (.call "_law_data" (.cons (.var 0) (.cons (.k (.int 4)) .nil)) .nil [.inl 0, .inl 1]))
  (.cons (.par [2, 3] (.cons (.call "_law_value" (.cons (.var 0) (.cons (.var 1) .nil)) .nil [.inl 0, .inl 1]) (.cons (.call "_law_data" (.cons (.var 0) (.cons (.k (.int 3)) .nil)) .nil [.inl 0, .inl 1]) .nil)))
  (.cons (.asg (.var 4) (.lst true (.cons (.var 2) (.cons (.call "_law_odd" (.cons (.var 0) .nil) .nil [.inl 0]) .nil))))
  (.cons (.for_ (.var 5) (.rng1 (.k (.int 4)))
  (.cons (.ex (.met .append (.var 4) (.cons (.call "_law_spoilt" (.cons (.var 0) (.cons (.var 2) .nil)) .nil [.inl 0, .inl 1]) .nil)))
  .nil))
  (.cons (.for_ (.var 6) (.val (.var 4))
  (.cons (.if_ (.not_ (.call "_law_same" (.cons (.lst false (.cons (.call "is_value" (.cons (.var 1) (.cons (.var 6) .nil)) .nil [.inl 0, .inl 1]) (.cons (.call "is_value" .nil (.cons (.var 6) (.cons (.var 1) .nil)) [.inl 1, .inl 0]) .nil))) (.cons (.bin .Mult (.lst false (.cons (.call "_law_is_value" (.cons (.var 1) (.cons (.var 6) .nil)) .nil [.inl 0, .inl 1]) .nil)) (.k (.int 2))) .nil)) .nil [.inl 0, .inl 1]))
  (.cons (.ret (.k (.bl false)))
  .nil)
  .nil)
  (.cons (.if_ (.not_ (.call "_law_same" (.cons (.call "is_value" (.cons (.var 3) (.cons (.var 6) .nil)) .nil [.inl 0, .inl 1]) (.cons (.call "_law_is_value" (.cons (.var 3) (.cons (.var 6) .nil)) .nil [.inl 0, .inl 1]) .nil)) .nil [.inl 0, .inl 1]))
  (.cons (.ret (.k (.bl false)))
  .nil)
  .nil)
  .nil)))
  (.cons (.ret (.call "_law_is_value" (.cons (.var 1) (.cons (.var 2) .nil)) .nil [.inl 0, .inl 1]))
  .nil)))))), .drop⟩
def t__law_are_ordered : Ev.FnD := ⟨["_law_well_here"], [], ["_law_well_here", "_law_kind", "_law_one", "_law_two", "_law_due", "_law_told"],
  (.cons (.asg (.var 1) (.call "_law_plain" (.cons (.var 0) (.cons (.k (.int 4)) .nil)) .nil [.inl 0, .inl 1]))
  (.cons (.par [2, 3] (.cons (.call "_law_value" (.cons (.var 0) (.cons (.var 1) .nil)) .nil [.inl 0, .inl 1]) (.cons (.call "_law_value" (.cons (.var 0) (.cons (.var 1) .nil)) .nil [.inl 0, .inl 1]) .nil)))
  (.cons (.asg (.var 3) (.ite (.cmp .Gt (.call "_law_draw" (.cons (.var 0) (.cons (.k (.int 4)) .nil)) .nil [.inl 0, .inl 1]) (.k (.int 0))) (.var 3) (.var 2)))
  (.cons (.asg (.var 4) (.call "_law_order" (.cons (.var 1) (.cons (.var 2) (.cons (.var 3) .nil))) .nil [.inl 0, .inl 1, .inl 2]))
  (.cons (.asg (.var 5) (.lst false (.cons (.call "order" (.cons (.var 1) (.cons (.var 2) (.cons (.var 3) .nil))) .nil [.inl 0, .inl 1, .inl 2]) (.cons (.call "order" .nil (.cons (.var 2) (.cons (.var 3) (.cons (.var 1) .nil))) [.inl 2, .inl 1, .inl 0]) (.cons (.call "order" (.cons (.var 1) (.cons (.var 2) (.cons (.var 2) .nil))) .nil [.inl 0, .inl 1, .inl 2]) .nil)))))
  (.cons (.ret (.call "_law_same" (.cons (.var 5) (.cons (.lst false (.cons (.var 4) (.cons (.bin .Sub (.k (.int 0)) (.var 4)) (.cons (.k (.int 0)) .nil)))) .nil)) .nil [.inl 0, .inl 1]))
  .nil)))))), .drop⟩
def t__law_are_sums : Ev.FnD := ⟨["_law_well_here"], [], ["_law_well_here", "_law_kind", "_law_one", "_law_two", "_law_times", "_law_told", "_law_due", "_law_named"],
  (.cons (.asg (.var 1) (.call "_law_group" (.cons (.var 0) (.cons (.k (.int 4)) .nil)) .nil [.inl 0, .inl 1]))
  (.cons (.par [2, 3, 4] (.cons (.call "_law_value" (.cons (.var 0) (.cons (.var 1) .nil)) .nil [.inl 0, .inl 1]) (.cons (.call "_law_value" (.cons (.var 0) (.cons (.var 1) .nil)) .nil [.inl 0, .inl 1]) (.cons (.call "_law_pick" (.cons (.var 0) (.cons (.tup (.cons (.k (.int 0)) (.cons (.k (.int 1)) (.cons (.una .USub (.k (.int 1))) (.cons (.k (.int 2)) (.cons (.k (.int 3)) (.cons (.una .USub (.k (.int 3))) (.cons (.k (.int 7)) (.cons (.bin .Pow (.k (.int 10)) (.k (.int 9))) .nil))))))))) .nil)) .nil [.inl 0, .inl 1]) .nil))))
  (.cons (.asg (.var 3) (.ite (.cmp .Gt (.call "_law_draw" (.cons (.var 0) (.cons (.k (.int 4)) .nil)) .nil [.inl 0, .inl 1]) (.k (.int 0))) (.var 3) (.call "_law_many" (.cons (.var 1) (.cons (.una .USub (.k (.int 1))) (.cons (.var 2) .nil))) .nil [.inl 0, .inl 1, .inl 2])))
  (.cons (.asg (.var 5) (.lst false (.cons (.call "zero_of" (.cons (.var 1) .nil) .nil [.inl 0]) (.cons (.call "sum_of" (.cons (.var 1) (.cons (.var 2) (.cons (.var 3) .nil))) .nil [.inl 0, .inl 1, .inl 2]) (.cons (.call "opposite" (.cons (.var 1) (.cons (.var 2) .nil)) .nil [.inl 0, .inl 1]) (.cons (.call "many_of" (.cons (.var 1) (.cons (.var 4) (.cons (.var 2) .nil))) .nil [.inl 0, .inl 1, .inl 2]) (.cons (.call "zero_of" .nil (.cons (.var 1) .nil) [.inl 0]) .nil)))))))
  (.cons (.asg (.var 6) (.lst false (.cons (.call "_law_zero" (.cons (.var 1) .nil) .nil [.inl 0]) (.cons (.call "_law_sum" (.cons (.var 1) (.cons (.var 2) (.cons (.var 3) .nil))) .nil [.inl 0, .inl 1, .inl 2]) (.cons (.call "_law_many" (.cons (.var 1) (.cons (.una .USub (.k (.int 1))) (.cons (.var 2) .nil))) .nil [.inl 0, .inl 1, .inl 2]) (.cons (.call "_law_many" (.cons (.var 1) (.cons (.var 4) (.cons (.var 2) .nil))) .nil [.inl 0, .inl 1, .inl 2]) .nil))))))
  (.cons (.if_ (.not_ (.call "_law_same" (.cons (.var 5) (.cons (.bin .Add (.var 6) (.sli (.var 6) .none (.some (.k (.int 1))))) .nil)) .nil [.inl 0, .inl 1]))
  (.cons (.ret (.k (.bl false)))
  .nil)
  .nil)
  (.cons (.asg (.var 7) (.lst true (.cons (.call "sum_of" .nil (.cons (.var 3) (.cons (.var 2) (.cons (.var 1) .nil))) [.inl 2, .inl 1, .inl 0]) (.cons (.call "opposite" .nil (.cons (.var 3) (.cons (.var 1) .nil)) [.inl 1, .inl 0]) .nil))))
  (.cons (.ex (.met .append (.var 7) (.cons (.call "many_of" .nil (.cons (.var 3) (.cons (.var 4) (.cons (.var 1) .nil))) [.inl 2, .inl 1, .inl 0]) .nil)))
  (.cons (.ret (.call "_law_same" (.cons (.var 7) (.cons (.lst false (.cons (.idx (.var 6) (.k (.int 1))) (.cons (.call "_law_many" (.cons (.var 1) (.cons (.una .USub (.k (.int 1))) (.cons (.var 3) .nil))) .nil [.inl 0, .inl 1, .inl 2]) (.cons (.call "_law_many" (.cons (.var 1) (.cons (.var 4) (.cons (.var 3) .nil))) .nil [.inl 0, .inl 1, .inl 2]) .nil)))) .nil)) .nil [.inl 0, .inl 1]))
  .nil))))))))), .drop⟩
def t__law_are_bags : Ev.FnD := ⟨["_law_well_here"], [], ["_law_well_here", "_law_part", "_law_pairs", "_law_kind", "_law_lap", "_law_bag_here", "_law_asked", "_law_count", "_law_support", "_law_told", "_law_thing", "_law_times"],
  (.cons (.asg (.tup (.cons (.var 1) (.cons (.var 2) .nil))) (.tup (.cons (.call "_law_plain" (.cons (.var 0) (.cons (.k (.int 3)) .nil)) .nil [.inl 0, .inl 1]) (.cons (.lst true .nil) .nil))))
  (.cons (.asg (.var 3) (.tup (.cons (.k (.str "bag")) (.cons (.var 1) .nil))))
  (.cons (.for_ (.var 4) (.rng1 (.call "_law_draw" (.cons (.var 0) (.cons (.k (.int 7)) .nil)) .nil [.inl 0, .inl 1]))
  (.cons (.asg (.var 10) (.call "_law_value" (.cons (.var 0) (.cons (.var 1) .nil)) .nil [.inl 0, .inl 1]))
  (.cons (.asg (.var 10) (.ite (.and_ (.cmp .NotEq (.var 2) (.lst false .nil)) (.cmp .Eq (.call "_law_draw" (.cons (.var 0) (.cons (.k (.int 3)) .nil)) .nil [.inl 0, .inl 1]) (.k (.int 0)))) (.idx (.call "_law_pick" (.cons (.var 0) (.cons (.var 2) .nil)) .nil [.inl 0, .inl 1]) (.k (.int 0))) (.var 10)))
  (.cons (.ex (.met .append (.var 2) (.cons (.tup (.cons (.var 10) (.cons (.call "_law_pick" (.cons (.var 0) (.cons (.tup (.cons (.k (.int 1)) (.cons (.una .USub (.k (.int 1))) (.cons (.k (.int 2)) (.cons (.k (.int 0)) (.cons (.k (.int 3)) (.cons (.una .USub (.k (.int 2))) (.cons (.una .USub (.k (.int 3))) (.cons (.k (.int 4)) .nil))))))))) .nil)) .nil [.inl 0, .inl 1]) .nil))) .nil)))
  .nil))))
  (.cons (.asg (.tup (.cons (.var 5) (.cons (.var 6) .nil))) (.tup (.cons (.call "_law_bag" (.cons (.var 1) (.cons (.var 2) .nil)) .nil [.inl 0, .inl 1]) (.cons (.call "_law_value" (.cons (.var 0) (.cons (.var 1) .nil)) .nil [.inl 0, .inl 1]) .nil))))
  (.cons (.asg (.var 6) (.ite (.and_ (.cmp .NotEq (.var 2) (.lst false .nil)) (.cmp .Gt (.call "_law_draw" (.cons (.var 0) (.cons (.k (.int 3)) .nil)) .nil [.inl 0, .inl 1]) (.k (.int 0)))) (.idx (.call "_law_pick" (.cons (.var 0) (.cons (.var 2) .nil)) .nil [.inl 0, .inl 1]) (.k (.int 0))) (.var 6)))
  (.cons (.asg (.var 7) (.blt .sum (.cons (.comp false [("_law_thing", 10), ("_law_times", 11)] (.tup (.cons (.var 10) (.cons (.var 11) .nil))) (.val (.var 5)) (.some (.cmp .Eq (.call "_law_order" (.cons (.var 1) (.cons (.var 10) (.cons (.var 6) .nil))) .nil [.inl 0, .inl 1, .inl 2]) (.k (.int 0)))) (.var 11)) .nil)))
  (.cons (.asg (.var 8) (.blt .tuple (.cons (.comp false [("_law_thing", 10), ("_law_times", 11)] (.tup (.cons (.var 10) (.cons (.var 11) .nil))) (.val (.var 5)) (.some (.cmp .Gt (.var 11) (.k (.int 0)))) (.tup (.cons (.var 10) (.cons (.k (.int 1)) .nil)))) .nil)))
  (.cons (.if_ (.not_ (.call "_law_same" (.cons (.lst false (.cons (.call "bag_of" (.cons (.var 3) (.cons (.blt .tuple (.cons (.var 2) .nil)) .nil)) .nil [.inl 0, .inl 1]) (.cons (.call "bag_of" .nil (.cons (.var 5) (.cons (.var 3) .nil)) [.inl 1, .inl 0]) .nil))) (.cons (.lst false (.cons (.var 5) (.cons (.var 5) .nil))) .nil)) .nil [.inl 0, .inl 1]))
  (.cons (.ret (.k (.bl false)))
  .nil)
  .nil)
  (.cons (.asg (.var 9) (.lst false (.cons (.call "count_of" (.cons (.var 3) (.cons (.var 5) (.cons (.var 6) .nil))) .nil [.inl 0, .inl 1, .inl 2]) (.cons (.call "support_of" (.cons (.var 3) (.cons (.var 5) .nil)) .nil [.inl 0, .inl 1]) (.cons (.call "count_of" .nil (.cons (.var 6) (.cons (.var 5) (.cons (.var 3) .nil))) [.inl 2, .inl 1, .inl 0]) .nil)))))
  (.cons (.ret (.call "_law_same" (.cons (.bin .Add (.var 9) (.lst false (.cons (.call "support_of" .nil (.cons (.var 5) (.cons (.var 3) .nil)) [.inl 1, .inl 0]) .nil))) (.cons (.lst false (.cons (.var 7) (.cons (.var 8) (.cons (.var 7) (.cons (.var 8) .nil))))) .nil)) .nil [.inl 0, .inl 1]))
  .nil)))))))))), .drop⟩
def t__law_right : Ev.FnD := ⟨["_law_well_here"], [], ["_law_well_here", "_law_turn"],
  (.cons (.for_ (.var 1) (.rng1 (.k (.int 3)))
  (.cons (.if_ (.or_ (.not_ (.call "_law_are_values" (.cons (.var 0) .nil) .nil [.inl 0])) (.not_ (.call "_law_are_ordered" (.cons (.var 0) .nil) .nil [.inl 0])))
  (.cons (.ret (.k (.bl false)))
  .nil)
  .nil)
  (.cons (.if_ (.or_ (.not_ (.call "_law_are_sums" (.cons (.var 0) .nil) .nil [.inl 0])) (.not_ (.call "_law_are_bags" (.cons (.var 0) .nil) .nil [.inl 0])))
  (.cons (.ret (.k (.bl false)))
  .nil)
  .nil)
  .nil)))
  (.cons (.ret (.k (.bl true)))
  .nil)), .drop⟩
def t_law : Ev.FnD := ⟨["_law_script"], [], ["_law_script", "_law_turn"],
  (.cons (.ret (.blt .all (.cons (.comp false [("_law_turn", 1)] (.var 1) (.rng1 (.blt .max (.cons (.k (.int 2)) (.cons (.blt .min (.cons (.blt .len (.cons (.var 0) .nil)) (.cons (.k (.int 3)) .nil))) .nil)))) .none (.call "_law_right" (.cons (.call "_law_well" (.cons (.var 0) (.cons (.var 1) .nil)) .nil [.inl 0, .inl 1]) .nil) .nil [.inl 0])) .nil)))
  .nil), .drop⟩
def con : List (Str × Ev.D) := [("KIND_SIZES", (.dct [((.str "unit"), (.int 1)), ((.str "num"), (.int 1)), ((.str "pair"), (.int 3)), ((.str "either"), (.int 3)), ((.str "bag"), (.int 2)), ((.str "fun"), (.int 3))]))]
def P : Ev.Prg := ⟨fun x => con.lookup x, ([("is_whole", t_is_whole), ("is_kinded", t_is_kinded), ("is_plain", t_is_plain), ("is_data", t_is_data), ("is_group", t_is_group), ("is_valued", t_is_valued), ("is_counted", t_is_counted), ("are_counted", t_are_counted), ("check_kind_that", t_check_kind_that), ("check_data", t_check_data), ("check_value", t_check_value), ("check_whole", t_check_whole), ("check_pairs", t_check_pairs), ("zero_by", t_zero_by), ("is_paired", t_is_paired), ("bag_by", t_bag_by), ("sum_of_bags", t_sum_of_bags), ("plus_by", t_plus_by), ("times_by", t_times_by), ("is_bag", t_is_bag)] : List (Str × Ev.FnD)) ++ ([("is_value", t_is_value), ("order", t_order), ("zero_of", t_zero_of), ("sum_of", t_sum_of), ("opposite", t_opposite), ("many_of", t_many_of), ("bag_of", t_bag_of), ("count_of", t_count_of), ("support_of", t_support_of), ("_law_well", t__law_well), ("_law_draw", t__law_draw), ("_law_pick", t__law_pick), ("_law_same", t__law_same), ("_law_odd", t__law_odd), ("_law_number", t__law_number), ("_law_plain", t__law_plain), ("_law_group", t__law_group), ("_law_data", t__law_data), ("_law_is_whole", t__law_is_whole), ("_law_is_headed", t__law_is_headed)] : List (Str × Ev.FnD)) ++ ([("_law_order", t__law_order), ("_law_bag", t__law_bag), ("_law_value", t__law_value), ("_law_is_value", t__law_is_value), ("_law_is_bag", t__law_is_bag), ("_law_zero", t__law_zero), ("_law_sum", t__law_sum), ("_law_many", t__law_many), ("_law_bent", t__law_bent), ("_law_spoilt", t__law_spoilt), ("_law_are_values", t__law_are_values), ("_law_are_ordered", t__law_are_ordered), ("_law_are_sums", t__law_are_sums), ("_law_are_bags", t__law_are_bags), ("_law_right", t__law_right), ("law", t_law)] : List (Str × Ev.FnD)),
  ["KIND_SIZES"], ["abs", "all", "bool", "dict", "divmod", "enumerate", "int", "isinstance", "len", "list", "max", "min", "range", "repr", "sorted", "str", "sum", "tuple", "zip"]⟩
def top (i : Nat) : Stmt := PySem.Challenge.pw_changewise_k03_whole_values_order_sums_a.main.body.getD i (.Pass ⟨0, 0, 0, 0⟩)
def s_is_whole : He.DefD := ⟨("is_whole", none), "is_whole", "is_whole", defArgs (top 7), defBody (top 7), defScope (top 7), [], []⟩
def s_is_kinded : He.DefD := ⟨("is_kinded", none), "is_kinded", "is_kinded", defArgs (top 11), defBody (top 11), defScope (top 11), [.int 100], []⟩
def s_is_plain : He.DefD := ⟨("is_plain", none), "is_plain", "is_plain", defArgs (top 12), defBody (top 12), defScope (top 12), [], []⟩
def s_is_data : He.DefD := ⟨("is_data", none), "is_data", "is_data", defArgs (top 13), defBody (top 13), defScope (top 13), [], []⟩
def s_is_group : He.DefD := ⟨("is_group", none), "is_group", "is_group", defArgs (top 14), defBody (top 14), defScope (top 14), [], []⟩
def s_is_valued : He.DefD := ⟨("is_valued", none), "is_valued", "is_valued", defArgs (top 15), defBody (top 15), defScope (top 15), [], []⟩
def s_is_counted : He.DefD := ⟨("is_counted", none), "is_counted", "is_counted", defArgs (top 16), defBody (top 16), defScope (top 16), [], []⟩
def s_are_counted : He.DefD := ⟨("are_counted", none), "are_counted", "are_counted", defArgs (top 17), defBody (top 17), defScope (top 17), [], []⟩
def s_check_kind_that : He.DefD := ⟨("check_kind_that", none), "check_kind_that", "check_kind_that", defArgs (top 19), defBody (top 19), defScope (top 19), [], []⟩
def s_check_data : He.DefD := ⟨("check_data", none), "check_data", "check_data", defArgs (top 20), defBody (top 20), defScope (top 20), [], []⟩
def s_check_value : He.DefD := ⟨("check_value", none), "check_value", "check_value", defArgs (top 21), defBody (top 21), defScope (top 21), [], []⟩
def s_check_whole : He.DefD := ⟨("check_whole", none), "check_whole", "check_whole", defArgs (top 22), defBody (top 22), defScope (top 22), [], []⟩
def s_check_pairs : He.DefD := ⟨("check_pairs", none), "check_pairs", "check_pairs", defArgs (top 23), defBody (top 23), defScope (top 23), [], []⟩
def s_zero_by : He.DefD := ⟨("zero_by", none), "zero_by", "zero_by", defArgs (top 25), defBody (top 25), defScope (top 25), [], []⟩
def s_is_paired : He.DefD := ⟨("is_paired", none), "is_paired", "is_paired", defArgs (top 26), defBody (top 26), defScope (top 26), [], []⟩
def s_bag_by : He.DefD := ⟨("bag_by", none), "bag_by", "bag_by", defArgs (top 27), defBody (top 27), defScope (top 27), [], []⟩
def s_sum_of_bags : He.DefD := ⟨("sum_of_bags", none), "sum_of_bags", "sum_of_bags", defArgs (top 28), defBody (top 28), defScope (top 28), [], []⟩
def s_plus_by : He.DefD := ⟨("plus_by", none), "plus_by", "plus_by", defArgs (top 29), defBody (top 29), defScope (top 29), [], []⟩
def s_times_by : He.DefD := ⟨("times_by", none), "times_by", "times_by", defArgs (top 30), defBody (top 30), defScope (top 30), [], []⟩
def s_is_bag : He.DefD := ⟨("is_bag", none), "is_bag", "is_bag", defArgs (top 32), defBody (top 32), defScope (top 32), [], []⟩
def s_is_value : He.DefD := ⟨("is_value", none), "is_value", "is_value", defArgs (top 33), defBody (top 33), defScope (top 33), [], []⟩
def s_order : He.DefD := ⟨("order", none), "order", "order", defArgs (top 34), defBody (top 34), defScope (top 34), [], []⟩
def s_zero_of : He.DefD := ⟨("zero_of", none), "zero_of", "zero_of", defArgs (top 35), defBody (top 35), defScope (top 35), [], []⟩
def s_sum_of : He.DefD := ⟨("sum_of", none), "sum_of", "sum_of", defArgs (top 36), defBody (top 36), defScope (top 36), [], []⟩
def s_opposite : He.DefD := ⟨("opposite", none), "opposite", "opposite", defArgs (top 37), defBody (top 37), defScope (top 37), [], []⟩
def s_many_of : He.DefD := ⟨("many_of", none), "many_of", "many_of", defArgs (top 38), defBody (top 38), defScope (top 38), [], []⟩
def s_bag_of : He.DefD := ⟨("bag_of", none), "bag_of", "bag_of", defArgs (top 39), defBody (top 39), defScope (top 39), [], []⟩
def s_count_of : He.DefD := ⟨("count_of", none), "count_of", "count_of", defArgs (top 40), defBody (top 40), defScope (top 40), [], []⟩
def s_support_of : He.DefD := ⟨("support_of", none), "support_of", "support_of", defArgs (top 41), defBody (top 41), defScope (top 41), [], []⟩
def s__law_well : He.DefD := ⟨("_law_well", none), "_law_well", "_law_well", defArgs (top 43), defBody (top 43), defScope (top 43), [], []⟩
def s__law_draw : He.DefD := ⟨("_law_draw", none), "_law_draw", "_law_draw", defArgs (top 44), defBody (top 44), defScope (top 44), [], []⟩
def s__law_pick : He.DefD := ⟨("_law_pick", none), "_law_pick", "_law_pick", defArgs (top 45), defBody (top 45), defScope (top 45), [], []⟩
def s__law_same : He.DefD := ⟨("_law_same", none), "_law_same", "_law_same", defArgs (top 46), defBody (top 46), defScope (top 46), [], []⟩
def s__law_odd : He.DefD := ⟨("_law_odd", none), "_law_odd", "_law_odd", defArgs (top 47), defBody (top 47), defScope (top 47), [], []⟩
def s__law_number : He.DefD := ⟨("_law_number", none), "_law_number", "_law_number", defArgs (top 48), defBody (top 48), defScope (top 48), [], []⟩
def s__law_plain : He.DefD := ⟨("_law_plain", none), "_law_plain", "_law_plain", defArgs (top 49), defBody (top 49), defScope (top 49), [], []⟩
def s__law_group : He.DefD := ⟨("_law_group", none), "_law_group", "_law_group", defArgs (top 50), defBody (top 50), defScope (top 50), [], []⟩
def s__law_data : He.DefD := ⟨("_law_data", none), "_law_data", "_law_data", defArgs (top 51), defBody (top 51), defScope (top 51), [], []⟩
def s__law_is_whole : He.DefD := ⟨("_law_is_whole", none), "_law_is_whole", "_law_is_whole", defArgs (top 52), defBody (top 52), defScope (top 52), [], []⟩
def s__law_is_headed : He.DefD := ⟨("_law_is_headed", none), "_law_is_headed", "_law_is_headed", defArgs (top 53), defBody (top 53), defScope (top 53), [], []⟩
def s__law_order : He.DefD := ⟨("_law_order", none), "_law_order", "_law_order", defArgs (top 54), defBody (top 54), defScope (top 54), [], []⟩
def s__law_bag : He.DefD := ⟨("_law_bag", none), "_law_bag", "_law_bag", defArgs (top 55), defBody (top 55), defScope (top 55), [], []⟩
def s__law_value : He.DefD := ⟨("_law_value", none), "_law_value", "_law_value", defArgs (top 56), defBody (top 56), defScope (top 56), [], []⟩
def s__law_is_value : He.DefD := ⟨("_law_is_value", none), "_law_is_value", "_law_is_value", defArgs (top 57), defBody (top 57), defScope (top 57), [], []⟩
def s__law_is_bag : He.DefD := ⟨("_law_is_bag", none), "_law_is_bag", "_law_is_bag", defArgs (top 58), defBody (top 58), defScope (top 58), [], []⟩
def s__law_zero : He.DefD := ⟨("_law_zero", none), "_law_zero", "_law_zero", defArgs (top 59), defBody (top 59), defScope (top 59), [], []⟩
def s__law_sum : He.DefD := ⟨("_law_sum", none), "_law_sum", "_law_sum", defArgs (top 60), defBody (top 60), defScope (top 60), [], []⟩
def s__law_many : He.DefD := ⟨("_law_many", none), "_law_many", "_law_many", defArgs (top 61), defBody (top 61), defScope (top 61), [], []⟩
def s__law_bent : He.DefD := ⟨("_law_bent", none), "_law_bent", "_law_bent", defArgs (top 62), defBody (top 62), defScope (top 62), [], []⟩
def s__law_spoilt : He.DefD := ⟨("_law_spoilt", none), "_law_spoilt", "_law_spoilt", defArgs (top 63), defBody (top 63), defScope (top 63), [], []⟩
def s__law_are_values : He.DefD := ⟨("_law_are_values", none), "_law_are_values", "_law_are_values", defArgs (top 64), defBody (top 64), defScope (top 64), [], []⟩
def s__law_are_ordered : He.DefD := ⟨("_law_are_ordered", none), "_law_are_ordered", "_law_are_ordered", defArgs (top 65), defBody (top 65), defScope (top 65), [], []⟩
def s__law_are_sums : He.DefD := ⟨("_law_are_sums", none), "_law_are_sums", "_law_are_sums", defArgs (top 66), defBody (top 66), defScope (top 66), [], []⟩
def s__law_are_bags : He.DefD := ⟨("_law_are_bags", none), "_law_are_bags", "_law_are_bags", defArgs (top 67), defBody (top 67), defScope (top 67), [], []⟩
def s__law_right : He.DefD := ⟨("_law_right", none), "_law_right", "_law_right", defArgs (top 68), defBody (top 68), defScope (top 68), [], []⟩
def s_law : He.DefD := ⟨("law", none), "law", "law", defArgs (top 69), defBody (top 69), defScope (top 69), [], []⟩
def src : List He.DefD := ([s_is_whole, s_is_kinded, s_is_plain, s_is_data, s_is_group, s_is_valued, s_is_counted, s_are_counted, s_check_kind_that, s_check_data, s_check_value, s_check_whole, s_check_pairs, s_zero_by, s_is_paired, s_bag_by, s_sum_of_bags, s_plus_by, s_times_by, s_is_bag] : List He.DefD) ++ ([s_is_value, s_order, s_zero_of, s_sum_of, s_opposite, s_many_of, s_bag_of, s_count_of, s_support_of, s__law_well, s__law_draw, s__law_pick, s__law_same, s__law_odd, s__law_number, s__law_plain, s__law_group, s__law_data, s__law_is_whole, s__law_is_headed] : List He.DefD) ++ ([s__law_order, s__law_bag, s__law_value, s__law_is_value, s__law_is_bag, s__law_zero, s__law_sum, s__law_many, s__law_bent, s__law_spoilt, s__law_are_values, s__law_are_ordered, s__law_are_sums, s__law_are_bags, s__law_right, s_law] : List He.DefD)
theorem c_is_whole : Ev.fnC P "is_whole" t_is_whole s_is_whole = true := by decide +kernel
theorem c_is_kinded : Ev.fnC P "is_kinded" t_is_kinded s_is_kinded = true := by decide +kernel
theorem c_is_plain : Ev.fnC P "is_plain" t_is_plain s_is_plain = true := by decide +kernel
theorem c_is_data : Ev.fnC P "is_data" t_is_data s_is_data = true := by decide +kernel
theorem c_is_group : Ev.fnC P "is_group" t_is_group s_is_group = true := by decide +kernel
theorem c_is_valued : Ev.fnC P "is_valued" t_is_valued s_is_valued = true := by decide +kernel
theorem c_is_counted : Ev.fnC P "is_counted" t_is_counted s_is_counted = true := by decide +kernel
theorem c_are_counted : Ev.fnC P "are_counted" t_are_counted s_are_counted = true := by decide +kernel
theorem c_check_kind_that : Ev.fnC P "check_kind_that" t_check_kind_that s_check_kind_that = true := by decide +kernel
theorem c_check_data : Ev.fnC P "check_data" t_check_data s_check_data = true := by decide +kernel
theorem c_check_value : Ev.fnC P "check_value" t_check_value s_check_value = true := by decide +kernel
theorem c_check_whole : Ev.fnC P "check_whole" t_check_whole s_check_whole = true := by decide +kernel
theorem c_check_pairs : Ev.fnC P "check_pairs" t_check_pairs s_check_pairs = true := by decide +kernel
theorem c_zero_by : Ev.fnC P "zero_by" t_zero_by s_zero_by = true := by decide +kernel
theorem c_is_paired : Ev.fnC P "is_paired" t_is_paired s_is_paired = true := by decide +kernel
theorem c_bag_by : Ev.fnC P "bag_by" t_bag_by s_bag_by = true := by decide +kernel
theorem c_sum_of_bags : Ev.fnC P "sum_of_bags" t_sum_of_bags s_sum_of_bags = true := by decide +kernel
theorem c_plus_by : Ev.fnC P "plus_by" t_plus_by s_plus_by = true := by decide +kernel
theorem c_times_by : Ev.fnC P "times_by" t_times_by s_times_by = true := by decide +kernel
theorem c_is_bag : Ev.fnC P "is_bag" t_is_bag s_is_bag = true := by decide +kernel
theorem c_is_value : Ev.fnC P "is_value" t_is_value s_is_value = true := by decide +kernel
theorem c_order : Ev.fnC P "order" t_order s_order = true := by decide +kernel
theorem c_zero_of : Ev.fnC P "zero_of" t_zero_of s_zero_of = true := by decide +kernel
theorem c_sum_of : Ev.fnC P "sum_of" t_sum_of s_sum_of = true := by decide +kernel
theorem c_opposite : Ev.fnC P "opposite" t_opposite s_opposite = true := by decide +kernel
theorem c_many_of : Ev.fnC P "many_of" t_many_of s_many_of = true := by decide +kernel
theorem c_bag_of : Ev.fnC P "bag_of" t_bag_of s_bag_of = true := by decide +kernel
theorem c_count_of : Ev.fnC P "count_of" t_count_of s_count_of = true := by decide +kernel
theorem c_support_of : Ev.fnC P "support_of" t_support_of s_support_of = true := by decide +kernel
theorem c__law_well : Ev.fnC P "_law_well" t__law_well s__law_well = true := by decide +kernel
theorem c__law_draw : Ev.fnC P "_law_draw" t__law_draw s__law_draw = true := by decide +kernel
theorem c__law_pick : Ev.fnC P "_law_pick" t__law_pick s__law_pick = true := by decide +kernel
theorem c__law_same : Ev.fnC P "_law_same" t__law_same s__law_same = true := by decide +kernel
theorem c__law_odd : Ev.fnC P "_law_odd" t__law_odd s__law_odd = true := by decide +kernel
theorem c__law_number : Ev.fnC P "_law_number" t__law_number s__law_number = true := by decide +kernel
theorem c__law_plain : Ev.fnC P "_law_plain" t__law_plain s__law_plain = true := by decide +kernel
theorem c__law_group : Ev.fnC P "_law_group" t__law_group s__law_group = true := by decide +kernel
theorem c__law_data : Ev.fnC P "_law_data" t__law_data s__law_data = true := by decide +kernel
theorem c__law_is_whole : Ev.fnC P "_law_is_whole" t__law_is_whole s__law_is_whole = true := by decide +kernel
theorem c__law_is_headed : Ev.fnC P "_law_is_headed" t__law_is_headed s__law_is_headed = true := by decide +kernel
theorem c__law_order : Ev.fnC P "_law_order" t__law_order s__law_order = true := by decide +kernel
theorem c__law_bag : Ev.fnC P "_law_bag" t__law_bag s__law_bag = true := by decide +kernel
theorem c__law_value : Ev.fnC P "_law_value" t__law_value s__law_value = true := by decide +kernel
theorem c__law_is_value : Ev.fnC P "_law_is_value" t__law_is_value s__law_is_value = true := by decide +kernel
theorem c__law_is_bag : Ev.fnC P "_law_is_bag" t__law_is_bag s__law_is_bag = true := by decide +kernel
theorem c__law_zero : Ev.fnC P "_law_zero" t__law_zero s__law_zero = true := by decide +kernel
theorem c__law_sum : Ev.fnC P "_law_sum" t__law_sum s__law_sum = true := by decide +kernel
theorem c__law_many : Ev.fnC P "_law_many" t__law_many s__law_many = true := by decide +kernel
theorem c__law_bent : Ev.fnC P "_law_bent" t__law_bent s__law_bent = true := by decide +kernel
theorem c__law_spoilt : Ev.fnC P "_law_spoilt" t__law_spoilt s__law_spoilt = true := by decide +kernel
theorem c__law_are_values : Ev.fnC P "_law_are_values" t__law_are_values s__law_are_values = true := by decide +kernel
theorem c__law_are_ordered : Ev.fnC P "_law_are_ordered" t__law_are_ordered s__law_are_ordered = true := by decide +kernel
theorem c__law_are_sums : Ev.fnC P "_law_are_sums" t__law_are_sums s__law_are_sums = true := by decide +kernel
theorem c__law_are_bags : Ev.fnC P "_law_are_bags" t__law_are_bags s__law_are_bags = true := by decide +kernel
theorem c__law_right : Ev.fnC P "_law_right" t__law_right s__law_right = true := by decide +kernel
theorem c_law : Ev.fnC P "law" t_law s_law = true := by decide +kernel
theorem allf : Ev.AllF P P.fns src := (.cons c_is_whole
  (.cons c_is_kinded
  (.cons c_is_plain
  (.cons c_is_data
  (.cons c_is_group
  (.cons c_is_valued
  (.cons c_is_counted
  (.cons c_are_counted
  (.cons c_check_kind_that
  (.cons c_check_data
  (.cons c_check_value
  (.cons c_check_whole
  (.cons c_check_pairs
  (.cons c_zero_by
  (.cons c_is_paired
  (.cons c_bag_by
  (.cons c_sum_of_bags
  (.cons c_plus_by
  (.cons c_times_by
  (.cons c_is_bag
  (.cons c_is_value
  (.cons c_order
  (.cons c_zero_of
  (.cons c_sum_of
  (.cons c_opposite
  (.cons c_many_of
  (.cons c_bag_of
  (.cons c_count_of
  (.cons c_support_of
  (.cons c__law_well
  (.cons c__law_draw
  (.cons c__law_pick
  (.cons c__law_same
  (.cons c__law_odd
  (.cons c__law_number
  (.cons c__law_plain
  (.cons c__law_group
  (.cons c__law_data
  (.cons c__law_is_whole
  (.cons c__law_is_headed
  (.cons c__law_order
  (.cons c__law_bag
  (.cons c__law_value
  (.cons c__law_is_value
  (.cons c__law_is_bag
  (.cons c__law_zero
  (.cons c__law_sum
  (.cons c__law_many
  (.cons c__law_bent
  (.cons c__law_spoilt
  (.cons c__law_are_values
  (.cons c__law_are_ordered
  (.cons c__law_are_sums
  (.cons c__law_are_bags
  (.cons c__law_right
  (.cons c_law
  Ev.AllF.nil))))))))))))))))))))))))))))))))))))))))))))))))))))))))
end Cw

set_option Elab.async false
set_option linter.all false
set_option maxRecDepth 100000
set_option maxHeartbeats 1000000
/-! ThA: kinds, plain values, bags: no program in sight. -/
namespace Cw
open Ev
open PySem (Str PyData)
open PySem.W (keyToks keyToksAll dataLt)
open PyProof.Rows (lexLt itemOrd lex_irrefl lex_trans lex_negTrans lex_total)
@[simp] theorem ok_unit : PyData.strOk ("unit" : Str) = true := by decide +kernel
@[simp] theorem ok_num : PyData.strOk ("num" : Str) = true := by decide +kernel
@[simp] theorem ok_pair : PyData.strOk ("pair" : Str) = true := by decide +kernel
@[simp] theorem ok_either : PyData.strOk ("either" : Str) = true := by decide +kernel
@[simp] theorem ok_bag : PyData.strOk ("bag" : Str) = true := by decide +kernel
@[simp] theorem ok_fun : PyData.strOk ("fun" : Str) = true := by decide +kernel
@[simp] theorem ok_left : PyData.strOk ("left" : Str) = true := by decide +kernel
@[simp] theorem ok_right : PyData.strOk ("right" : Str) = true := by decide +kernel
@[simp] theorem ne_unit_num : (("unit" : Str) = ("num" : Str)) = False := eq_false (by decide +kernel)
@[simp] theorem ne_unit_pair : (("unit" : Str) = ("pair" : Str)) = False := eq_false (by decide +kernel)
@[simp] theorem ne_unit_either : (("unit" : Str) = ("either" : Str)) = False := eq_false (by decide +kernel)
@[simp] theorem ne_unit_bag : (("unit" : Str) = ("bag" : Str)) = False := eq_false (by decide +kernel)
@[simp] theorem ne_unit_fun : (("unit" : Str) = ("fun" : Str)) = False := eq_false (by decide +kernel)
@[simp] theorem ne_unit_left : (("unit" : Str) = ("left" : Str)) = False := eq_false (by decide +kernel)
@[simp] theorem ne_unit_right : (("unit" : Str) = ("right" : Str)) = False := eq_false (by decide +kernel)
@[simp] theorem ne_num_unit : (("num" : Str) = ("unit" : Str)) = False := eq_false (by decide +kernel)
@[simp] theorem ne_num_pair : (("num" : Str) = ("pair" : Str)) = False := eq_false (by decide +kernel)
@[simp] theorem ne_num_either : (("num" : Str) = ("either" : Str)) = False := eq_false (by decide +kernel)
@[simp] theorem ne_num_bag : (("num" : Str) = ("bag" : Str)) = False := eq_false (by decide +kernel)
@[simp] theorem ne_num_fun : (("num" : Str) = ("fun" : Str)) = False := eq_false (by decide +kernel)
@[simp] theorem ne_num_left : (("num" : Str) = ("left" : Str)) = False := eq_false (by decide +kernel)
@[simp] theorem ne_num_right : (("num" : Str) = ("right" : Str)) = False := eq_false (by decide +kernel)
@[simp] theorem ne_pair_unit : (("pair" : Str) = ("unit" : Str)) = False := eq_false (by decide +kernel)
@[simp] theorem ne_pair_num : (("pair" : Str) = ("num" : Str)) = False := eq_false (by decide +kernel)
@[simp] theorem ne_pair_either : (("pair" : Str) = ("either" : Str)) = False := eq_false (by decide +kernel)
@[simp] theorem ne_pair_bag : (("pair" : Str) = ("bag" : Str)) = False := eq_false (by decide +kernel)
@[simp] theorem ne_pair_fun : (("pair" : Str) = ("fun" : Str)) = False := eq_false (by decide +kernel)
@[simp] theorem ne_pair_left : (("pair" : Str) = ("left" : Str)) = False := eq_false (by decide +kernel)
@[simp] theorem ne_pair_right : (("pair" : Str) = ("right" : Str)) = False := eq_false (by decide +kernel)
@[simp] theorem ne_either_unit : (("either" : Str) = ("unit" : Str)) = False := eq_false (by decide +kernel)
@[simp] theorem ne_either_num : (("either" : Str) = ("num" : Str)) = False := eq_false (by decide +kernel)
@[simp] theorem ne_either_pair : (("either" : Str) = ("pair" : Str)) = False := eq_false (by decide +kernel)
@[simp] theorem ne_either_bag : (("either" : Str) = ("bag" : Str)) = False := eq_false (by decide +kernel)
@[simp] theorem ne_either_fun : (("either" : Str) = ("fun" : Str)) = False := eq_false (by decide +kernel)
@[simp] theorem ne_either_left : (("either" : Str) = ("left" : Str)) = False := eq_false (by decide +kernel)
@[simp] theorem ne_either_right : (("either" : Str) = ("right" : Str)) = False := eq_false (by decide +kernel)
@[simp] theorem ne_bag_unit : (("bag" : Str) = ("unit" : Str)) = False := eq_false (by decide +kernel)
@[simp] theorem ne_bag_num : (("bag" : Str) = ("num" : Str)) = False := eq_false (by decide +kernel)
@[simp] theorem ne_bag_pair : (("bag" : Str) = ("pair" : Str)) = False := eq_false (by decide +kernel)
@[simp] theorem ne_bag_either : (("bag" : Str) = ("either" : Str)) = False := eq_false (by decide +kernel)
@[simp] theorem ne_bag_fun : (("bag" : Str) = ("fun" : Str)) = False := eq_false (by decide +kernel)
@[simp] theorem ne_bag_left : (("bag" : Str) = ("left" : Str)) = False := eq_false (by decide +kernel)
@[simp] theorem ne_bag_right : (("bag" : Str) = ("right" : Str)) = False := eq_false (by decide +kernel)
@[simp] theorem ne_fun_unit : (("fun" : Str) = ("unit" : Str)) = False := eq_false (by decide +kernel)
@[simp] theorem ne_fun_num : (("fun" : Str) = ("num" : Str)) = False := eq_false (by decide +kernel)
@[simp] theorem ne_fun_pair : (("fun" : Str) = ("pair" : Str)) = False := eq_false (by decide +kernel)
@[simp] theorem ne_fun_either : (("fun" : Str) = ("either" : Str)) = False := eq_false (by decide +kernel)
@[simp] theorem ne_fun_bag : (("fun" : Str) = ("bag" : Str)) = False := eq_false (by decide +kernel)
@[simp] theorem ne_fun_left : (("fun" : Str) = ("left" : Str)) = False := eq_false (by decide +kernel)
@[simp] theorem ne_fun_right : (("fun" : Str) = ("right" : Str)) = False := eq_false (by decide +kernel)
@[simp] theorem ne_left_unit : (("left" : Str) = ("unit" : Str)) = False := eq_false (by decide +kernel)
@[simp] theorem ne_left_num : (("left" : Str) = ("num" : Str)) = False := eq_false (by decide +kernel)
@[simp] theorem ne_left_pair : (("left" : Str) = ("pair" : Str)) = False := eq_false (by decide +kernel)
@[simp] theorem ne_left_either : (("left" : Str) = ("either" : Str)) = False := eq_false (by decide +kernel)
@[simp] theorem ne_left_bag : (("left" : Str) = ("bag" : Str)) = False := eq_false (by decide +kernel)
@[simp] theorem ne_left_fun : (("left" : Str) = ("fun" : Str)) = False := eq_false (by decide +kernel)
@[simp] theorem ne_left_right : (("left" : Str) = ("right" : Str)) = False := eq_false (by decide +kernel)
@[simp] theorem ne_right_unit : (("right" : Str) = ("unit" : Str)) = False := eq_false (by decide +kernel)
@[simp] theorem ne_right_num : (("right" : Str) = ("num" : Str)) = False := eq_false (by decide +kernel)
@[simp] theorem ne_right_pair : (("right" : Str) = ("pair" : Str)) = False := eq_false (by decide +kernel)
@[simp] theorem ne_right_either : (("right" : Str) = ("either" : Str)) = False := eq_false (by decide +kernel)
@[simp] theorem ne_right_bag : (("right" : Str) = ("bag" : Str)) = False := eq_false (by decide +kernel)
@[simp] theorem ne_right_fun : (("right" : Str) = ("fun" : Str)) = False := eq_false (by decide +kernel)
@[simp] theorem ne_right_left : (("right" : Str) = ("left" : Str)) = False := eq_false (by decide +kernel)
inductive Kd where
  | unit | num
  | bag (a : Kd)
  | pair (a b : Kd)
  | either (a b : Kd)
  | fn (a b : Kd)
  deriving DecidableEq
def enc : Kd → D
  | .unit => .tup [.str "unit"]
  | .num => .tup [.str "num"]
  | .bag a => .tup [.str "bag", enc a]
  | .pair a b => .tup [.str "pair", enc a, enc b]
  | .either a b => .tup [.str "either", enc a, enc b]
  | .fn a b => .tup [.str "fun", enc a, enc b]
def Kd.pl : Kd → Bool
  | .unit => true
  | .num => true
  | .pair a b => a.pl && b.pl
  | .either a b => a.pl && b.pl
  | _ => false
def Kd.dp : Kd → Nat
  | .unit => 1
  | .num => 1
  | .bag a => a.dp + 1
  | .pair a b => max a.dp b.dp + 1
  | .either a b => max a.dp b.dp + 1
  | .fn a b => max a.dp b.dp + 1
/-- kinds of data, the bags of plain ones -/
def Kd.dt : Kd → Bool
  | .unit => true
  | .num => true
  | .bag a => a.pl
  | .pair a b => a.dt && b.dt
  | .either a b => a.dt && b.dt
  | .fn _ _ => false
def Kd.gr : Kd → Bool
  | .num => true
  | .bag a => a.pl
  | .pair a b => a.gr && b.gr
  | _ => false
def Kd.wf : Kd → Bool
  | .unit => true
  | .num => true
  | .bag a => a.pl
  | .pair a b => a.wf && b.wf
  | .either a b => a.wf && b.wf
  | .fn a b => a.wf && b.wf
theorem dp_pos (k : Kd) : 1 ≤ k.dp := by cases k <;> simp [Kd.dp]
theorem succ_of {n m : Nat} (h : m + 1 ≤ n) : ∃ k, n = k + 1 ∧ m ≤ k := ⟨n - 1, by omega, by omega⟩
theorem pl_dt : ∀ {k : Kd}, k.pl = true → k.dt = true
  | .unit, _ => rfl
  | .num, _ => rfl
  | .pair a b, h => by simp only [Kd.pl, Kd.dt, Bool.and_eq_true] at *; exact ⟨pl_dt h.1, pl_dt h.2⟩
  | .either a b, h => by simp only [Kd.pl, Kd.dt, Bool.and_eq_true] at *; exact ⟨pl_dt h.1, pl_dt h.2⟩
  | .bag _, h => by simp [Kd.pl] at h
  | .fn _ _, h => by simp [Kd.pl] at h
theorem gr_dt : ∀ {k : Kd}, k.gr = true → k.dt = true
  | .num, _ => rfl
  | .bag _, h => h
  | .pair a b, h => by simp only [Kd.gr, Kd.dt, Bool.and_eq_true] at *; exact ⟨gr_dt h.1, gr_dt h.2⟩
  | .unit, h => by simp [Kd.gr] at h
  | .either _ _, h => by simp [Kd.gr] at h
  | .fn _ _, h => by simp [Kd.gr] at h
theorem dt_wf : ∀ {k : Kd}, k.dt = true → k.wf = true
  | .unit, _ => rfl
  | .num, _ => rfl
  | .bag _, h => h
  | .pair a b, h => by simp only [Kd.wf, Kd.dt, Bool.and_eq_true] at *; exact ⟨dt_wf h.1, dt_wf h.2⟩
  | .either a b, h => by simp only [Kd.wf, Kd.dt, Bool.and_eq_true] at *; exact ⟨dt_wf h.1, dt_wf h.2⟩
  | .fn _ _, h => by simp [Kd.dt] at h
/-! ### plain values -/
inductive Pv where
  | unit
  | num (i : Int)
  | pair (a b : Pv)
  | left (a : Pv)
  | right (a : Pv)
  deriving DecidableEq
def encP : Pv → D
  | .unit => .tup []
  | .num i => .int i
  | .pair a b => .tup [.str "pair", encP a, encP b]
  | .left a => .tup [.str "left", encP a]
  | .right a => .tup [.str "right", encP a]
def pyP : Pv → PyData
  | .unit => .tuple []
  | .num i => .int i
  | .pair a b => .tuple [.str "pair", pyP a, pyP b]
  | .left a => .tuple [.str "left", pyP a]
  | .right a => .tuple [.str "right", pyP a]
def hasP : Kd → Pv → Bool
  | .unit, .unit => true
  | .num, .num _ => true
  | .pair k l, .pair a b => hasP k a && hasP l b
  | .either k _, .left a => hasP k a
  | .either _ l, .right b => hasP l b
  | _, _ => false
theorem py_encP : ∀ p : Pv, (encP p).py = some (pyP p)
  | .unit => by simp [encP, pyP, D.py, pys]
  | .num i => by simp [encP, pyP, D.py]
  | .pair a b => by simp [encP, pyP, D.py, pys, py_encP a, py_encP b]
  | .left a => by simp [encP, pyP, D.py, pys, py_encP a]
  | .right a => by simp [encP, pyP, D.py, pys, py_encP a]
theorem encD_encP (p : Pv) : encD (encP p) = pyP p := by unfold encD; rw [py_encP]; rfl
theorem pur_pyP : ∀ p : Pv, pur (pyP p) = true
  | .unit => by simp [pyP, pur, purs]
  | .num i => by simp [pyP, pur]
  | .pair a b => by simp [pyP, pur, purs, pur_pyP a, pur_pyP b]
  | .left a => by simp [pyP, pur, purs, pur_pyP a]
  | .right a => by simp [pyP, pur, purs, pur_pyP a]
theorem pyP_inj : ∀ {a b : Pv}, pyP a = pyP b → a = b := by
  intro a
  induction a with
  | unit => intro b h; cases b <;> simp [pyP] at h ⊢
  | num i => intro b h; cases b <;> simp [pyP] at h ⊢; exact h
  | pair x y ihx ihy => intro b h; cases b <;> simp [pyP] at h ⊢; exact ⟨ihx h.1, ihy h.2⟩
  | left x ih => intro b h; cases b <;> simp [pyP] at h ⊢; exact ih h
  | right x ih => intro b h; cases b <;> simp [pyP] at h ⊢; exact ih h
theorem encP_inj {a b : Pv} (h : encP a = encP b) : a = b := by
  have h1 := py_encP a
  rw [h, py_encP b] at h1
  exact (pyP_inj (Option.some.inj h1)).symm
theorem nk_inj : ∀ {a b : Pv}, (encP a).nk = (encP b).nk → a = b := by
  intro a
  induction a with
  | unit => intro b h; cases b <;> simp [encP, D.nk, nks] at h ⊢
  | num i => intro b h; cases b <;> simp [encP, D.nk, nks] at h ⊢; exact h
  | pair x y ihx ihy => intro b h; cases b <;> simp [encP, D.nk, nks] at h ⊢; exact ⟨ihx h.1, ihy h.2⟩
  | left x ih => intro b h; cases b <;> simp [encP, D.nk, nks] at h ⊢; exact ih h
  | right x ih => intro b h; cases b <;> simp [encP, D.nk, nks] at h ⊢; exact ih h
theorem eqv_pyP {a b : Pv} : PyData.eqv (pyP a) (pyP b) = decide (a = b) := by
  by_cases h : a = b
  · subst h; rw [eqv_same (pur_pyP a)]; simp
  · rw [decide_eq_false h]
    cases e : PyData.eqv (pyP a) (pyP b) with
    | false => rfl
    | true => exact absurd (pyP_inj (eqv_pur (pur_pyP a) (pur_pyP b) e)) h
theorem cm_has : ∀ {k : Kd} {a b : Pv}, hasP k a = true → hasP k b = true → cm (pyP a) (pyP b) = true := by
  intro k
  induction k with
  | unit => intro a b h1 h2; cases a <;> simp [hasP] at h1; cases b <;> simp [hasP] at h2; rfl
  | num => intro a b h1 h2; cases a <;> simp [hasP] at h1; cases b <;> simp [hasP] at h2; rfl
  | bag k _ => intro a b h1 h2; cases a <;> simp [hasP] at h1
  | fn k l _ _ => intro a b h1 h2; cases a <;> simp [hasP] at h1
  | pair k l ihk ihl =>
    intro a b h1 h2
    cases a <;> simp [hasP] at h1
    cases b <;> simp [hasP] at h2
    simp only [pyP, cm, cms]
    have e : PyData.eqv (.str "pair") (.str "pair") = true := by simp [PyData.eqv]
    rw [e, if_pos rfl]
    split
    · split
      · rfl
      · exact ihl h1.2 h2.2
    · exact ihk h1.1 h2.1
  | either k l ihk ihl =>
    intro a b h1 h2
    cases a <;> simp [hasP] at h1 <;> cases b <;> simp [hasP] at h2 <;> simp only [pyP, cm, cms]
    · have e : PyData.eqv (.str "left") (.str "left") = true := by simp [PyData.eqv]
      rw [e, if_pos rfl]
      split
      · rfl
      · exact ihk h1 h2
    · have e : PyData.eqv (.str "left") (.str "right") = false := by simp [PyData.eqv]
      rw [e, if_neg (by decide)]
    · have e : PyData.eqv (.str "right") (.str "left") = false := by simp [PyData.eqv]
      rw [e, if_neg (by decide)]
    · have e : PyData.eqv (.str "right") (.str "right") = true := by simp [PyData.eqv]
      rw [e, if_pos rfl]
      split
      · rfl
      · exact ihl h1 h2
theorem depth_has : ∀ {k : Kd} {p : Pv}, hasP k p = true → (pyP p).depth ≤ k.dp := by
  intro k
  induction k with
  | unit => intro p h; cases p <;> simp [hasP] at h; simp [pyP, PyData.depth, PyData.depthAll, Kd.dp]
  | num => intro p h; cases p <;> simp [hasP] at h; simp [pyP, PyData.depth, Kd.dp]
  | bag k _ => intro p h; cases p <;> simp [hasP] at h
  | fn k l _ _ => intro p h; cases p <;> simp [hasP] at h
  | pair k l ihk ihl =>
    intro p h
    cases p <;> simp [hasP] at h
    have := ihk h.1
    have := ihl h.2
    simp [pyP, PyData.depth, PyData.depthAll, Kd.dp]; omega
  | either k l ihk ihl =>
    intro p h
    cases p <;> simp [hasP] at h
    · have := ihk h
      simp [pyP, PyData.depth, PyData.depthAll, Kd.dp]; omega
    · have := ihl h
      simp [pyP, PyData.depth, PyData.depthAll, Kd.dp]; omega
theorem tkey_has : ∀ {k : Kd} {p : Pv} {n : Nat}, hasP k p = true → k.dp ≤ n → (encP p).tkey n = true := by
  intro k
  induction k with
  | unit => intro p n h hn; cases p <;> simp [hasP] at h; obtain ⟨n, rfl, _⟩ := succ_of hn; simp [encP, D.tkey, tkeys]
  | num => intro p n h hn; cases p <;> simp [hasP] at h; obtain ⟨n, rfl, _⟩ := succ_of hn; simp [encP, D.tkey]
  | bag k _ => intro p n h; cases p <;> simp [hasP] at h
  | fn k l _ _ => intro p n h; cases p <;> simp [hasP] at h
  | pair k l ihk ihl =>
    intro p n h hn
    cases p <;> simp [hasP] at h
    obtain ⟨n, rfl, hn⟩ := succ_of hn
    have d1 := dp_pos k
    obtain ⟨m, rfl⟩ : ∃ m, n = m + 1 := ⟨n - 1, by omega⟩
    simp [encP, D.tkey, tkeys, ihk h.1 (n := m + 1) (by omega), ihl h.2 (n := m + 1) (by omega)]
  | either k l ihk ihl =>
    intro p n h hn
    obtain ⟨n, rfl, hn⟩ := succ_of hn
    have d1 := dp_pos k
    obtain ⟨m, rfl⟩ : ∃ m, n = m + 1 := ⟨n - 1, by omega⟩
    cases p <;> simp [hasP] at h
    · simp [encP, D.tkey, tkeys, ihk h (n := m + 1) (by omega)]
    · simp [encP, D.tkey, tkeys, ihl h (n := m + 1) (by omega)]
/-- all such keys are of one sort -/
theorem key_has {k : Kd} {p : Pv} (h : hasP k p = true) (hk : k.dp ≤ 8) : if k = .num then (encP p).leaf = true else (encP p).tk = true := by
  split
  · rename_i e; subst e; cases p <;> simp [hasP] at h; rfl
  · rename_i e
    have t := tkey_has h hk
    unfold D.tk
    rw [t, Bool.and_true]
    cases k <;> cases p <;> simp [hasP] at h <;> first | rfl | exact absurd rfl e
/-! ### their order -/
def plt (a b : Pv) : Bool := dataLt (pyP a) (pyP b)
theorem plt_irrefl (a : Pv) : plt a a = false := lex_irrefl _
theorem plt_trans {a b c : Pv} (h : plt a b = true) (k : plt b c = true) : plt a c = true := lex_trans _ _ _ h k
theorem plt_neg {a b c : Pv} (h : plt a c = true) : plt a b = true ∨ plt b c = true := lex_negTrans _ _ _ h
theorem plt_asymm {a b : Pv} (h : plt a b = true) : plt b a = false := by
  cases e : plt b a with
  | false => rfl
  | true => have := plt_trans h e; rw [plt_irrefl] at this; cases this
theorem plt_total {k : Kd} {a b : Pv} (ha : hasP k a = true) (hb : hasP k b = true) (h1 : plt a b = false) (h2 : plt b a = false) : a = b := by
  refine Decidable.byContradiction fun ne => ?_
  have e : keyToks (pyP a) = keyToks (pyP b) := lex_total _ _ h1 h2
  have v : PyData.eqv (pyP a) (pyP b) = false := by rw [eqv_pyP, decide_eq_false ne]
  have t := toks_cm (pur_pyP a) (pur_pyP b) (cm_has ha hb) v [.inl 0] [.inl 1]
  rw [e, PySem.W.lex_pre] at t
  rw [show lexLt itemOrd (keyToks (pyP b)) (keyToks (pyP b)) = false from lex_irrefl _] at t
  revert t
  rw [PySem.W.lex_one]
  decide
end Cw

set_option Elab.async false
set_option linter.all false
set_option maxRecDepth 100000
set_option maxHeartbeats 1000000
/-! ThB: bags. -/
namespace Cw
open Ev
open PySem (Str PyData)
abbrev Bg := List (Pv × Int)
def keys (l : Bg) : List Pv := l.map (·.1)
def cnt : Bg → Pv → Int
  | [], _ => 0
  | p :: r, x => (if p.1 = x then p.2 else 0) + cnt r x
def dget : Bg → Pv → Option Int
  | [], _ => none
  | p :: r, x => if p.1 = x then some p.2 else dget r x
def dset (l : Bg) (x : Pv) (v : Int) : Bg := if l.any (fun p => decide (p.1 = x)) then l.map (fun p => if p.1 = x then (p.1, v) else p) else l ++ [(x, v)]
def dadd (l : Bg) (p : Pv × Int) : Bg := dset l p.1 ((dget l p.1).getD 0 + p.2)
def dsum (acc l : Bg) : Bg := l.foldl dadd acc
def srt (l : List Pv) : List Pv := l.mergeSort fun a b => !plt b a
def norm (l : Bg) : Bg := ((srt (keys l)).filter fun x => decide ((dget l x).getD 0 ≠ 0)).map fun x => (x, (dget l x).getD 0)
def typed (k : Kd) (l : Bg) : Prop := ∀ p ∈ l, hasP k p.1 = true
structure IsBag (k : Kd) (l : Bg) : Prop where
  ty : typed k l
  nz : ∀ p ∈ l, p.2 ≠ 0
  st : l.Pairwise fun p q => plt p.1 q.1 = true
theorem mem_keys {l : Bg} {x : Pv} : x ∈ keys l ↔ ∃ p ∈ l, p.1 = x := List.mem_map
theorem cnt_none {l : Bg} {x : Pv} (h : x ∉ keys l) : cnt l x = 0 := by
  induction l with
  | nil => rfl
  | cons p r ih =>
    simp only [keys, List.map_cons, List.mem_cons, not_or] at h
    simp only [cnt, if_neg (Ne.symm h.1), ih h.2, Int.zero_add]
theorem dget_none {l : Bg} {x : Pv} (h : x ∉ keys l) : dget l x = none := by
  induction l with
  | nil => rfl
  | cons p r ih =>
    simp only [keys, List.map_cons, List.mem_cons, not_or] at h
    simp only [dget, if_neg (Ne.symm h.1), ih h.2]
theorem dget_some {l : Bg} {x : Pv} (h : x ∈ keys l) : ∃ v, dget l x = some v := by
  induction l with
  | nil => cases h
  | cons p r ih =>
    simp only [keys, List.map_cons, List.mem_cons] at h
    by_cases e : p.1 = x
    · exact ⟨p.2, by simp only [dget, if_pos e]⟩
    · rcases h with h | h
      · exact absurd h.symm e
      · obtain ⟨v, hv⟩ := ih h
        exact ⟨v, by simp only [dget, if_neg e, hv]⟩
theorem dget_cnt {l : Bg} {x : Pv} (nd : (keys l).Nodup) : (dget l x).getD 0 = cnt l x := by
  induction l with
  | nil => rfl
  | cons p r ih =>
    simp only [keys, List.map_cons, List.nodup_cons] at nd
    by_cases e : p.1 = x
    · simp only [dget, cnt, if_pos e, Option.getD_some]
      rw [cnt_none (by rw [← e]; exact nd.1)]; simp
    · simp only [dget, cnt, if_neg e, ih nd.2, Int.zero_add]
theorem any_keys {l : Bg} {x : Pv} : l.any (fun p => decide (p.1 = x)) = decide (x ∈ keys l) := by
  rw [Bool.eq_iff_iff, List.any_eq_true, decide_eq_true_eq, mem_keys]
  simp
theorem dset_keys {l : Bg} {x : Pv} {v : Int} : keys (dset l x v) = if x ∈ keys l then keys l else keys l ++ [x] := by
  unfold dset
  rw [any_keys]
  by_cases h : x ∈ keys l
  · rw [if_pos (decide_eq_true h), if_pos h]
    unfold keys
    rw [List.map_map]
    refine List.map_congr_left fun p _ => ?_
    simp only [Function.comp]
    split <;> rfl
  · rw [if_neg (by simpa using h), if_neg h]
    simp [keys]
theorem dset_nodup {l : Bg} {x : Pv} {v : Int} (h : (keys l).Nodup) : (keys (dset l x v)).Nodup := by
  rw [dset_keys]
  split
  · exact h
  · rename_i hx
    exact List.nodup_append.mpr ⟨h, by simp, fun a ha b hb => by rw [List.mem_singleton] at hb; subst hb; rintro rfl; exact hx ha⟩
theorem dset_typed {k : Kd} {l : Bg} {x : Pv} {v : Int} (h : typed k l) (hx : hasP k x = true) : typed k (dset l x v) := by
  unfold dset
  split
  · intro p hp
    obtain ⟨q, hq, rfl⟩ := List.mem_map.mp hp
    split <;> exact h q hq
  · intro p hp
    rcases List.mem_append.mp hp with hp | hp
    · exact h p hp
    · rw [List.mem_singleton] at hp; subst hp; exact hx
theorem dset_len {l : Bg} {x : Pv} {v : Int} : (dset l x v).length ≤ l.length + 1 := by
  unfold dset; split <;> simp
theorem cnt_append {a b : Bg} {x : Pv} : cnt (a ++ b) x = cnt a x + cnt b x := by
  induction a with
  | nil => simp [cnt]
  | cons p r ih => simp only [List.cons_append, cnt, ih]; omega
theorem cnt_map_set {l : Bg} {x y : Pv} {v : Int} (nd : (keys l).Nodup) (h : x ∈ keys l) : cnt (l.map fun p => if p.1 = x then (p.1, v) else p) y = if x = y then v else cnt l y := by
  induction l with
  | nil => cases h
  | cons p r ih =>
    simp only [keys, List.map_cons, List.nodup_cons, List.mem_cons] at nd h
    rw [List.map_cons]
    by_cases e : p.1 = x
    · have no : x ∉ keys r := by rw [← e]; exact nd.1
      have same : (r.map fun p => if p.1 = x then (p.1, v) else p) = r := by
        refine (List.map_congr_left fun q hq => ?_).trans (List.map_id r)
        rw [if_neg]; rfl
        intro z; exact no (mem_keys.mpr ⟨q, hq, z⟩)
      rw [same, if_pos e]
      simp only [cnt, e]
      by_cases z : x = y
      · rw [if_pos z, if_pos z, cnt_none (by rw [← z]; exact no)]; simp
      · rw [if_neg z, if_neg z]; simp [z]
    · rw [if_neg e]
      simp only [cnt]
      rw [ih nd.2 (h.resolve_left fun z => e z.symm)]
      by_cases z : x = y
      · rw [if_pos z, if_pos z]
        subst z
        rw [if_neg e]; simp
      · rw [if_neg z, if_neg z]
theorem cnt_dset {l : Bg} {x y : Pv} {v : Int} (nd : (keys l).Nodup) : cnt (dset l x v) y = if x = y then v else cnt l y := by
  unfold dset
  rw [any_keys]
  by_cases h : x ∈ keys l
  · rw [if_pos (decide_eq_true h)]; exact cnt_map_set nd h
  · rw [if_neg (by simpa using h), cnt_append]
    simp only [cnt]
    by_cases z : x = y
    · rw [if_pos z, if_pos z, cnt_none (by rw [← z]; exact h)]; simp
    · rw [if_neg z, if_neg z]; simp
theorem dadd_facts {k : Kd} {l : Bg} {p : Pv × Int} (nd : (keys l).Nodup) (ty : typed k l) (hp : hasP k p.1 = true) : (keys (dadd l p)).Nodup ∧ typed k (dadd l p) ∧ (dadd l p).length ≤ l.length + 1 ∧ ∀ x, cnt (dadd l p) x = cnt l x + cnt [p] x := by
  refine ⟨dset_nodup nd, dset_typed ty hp, dset_len, fun x => ?_⟩
  unfold dadd
  rw [cnt_dset nd, dget_cnt nd]
  simp only [cnt]
  by_cases e : p.1 = x
  · rw [if_pos e, if_pos e, e]; omega
  · rw [if_neg e, if_neg e]; omega
theorem dsum_cons {acc r : Bg} {p : Pv × Int} : dsum acc (p :: r) = dsum (dadd acc p) r := rfl
theorem dsum_facts {k : Kd} : ∀ {l acc : Bg}, (keys acc).Nodup → typed k acc → typed k l → (keys (dsum acc l)).Nodup ∧ typed k (dsum acc l) ∧ (dsum acc l).length ≤ acc.length + l.length ∧ ∀ x, cnt (dsum acc l) x = cnt acc x + cnt l x
  | [], acc, nd, ty, _ => ⟨nd, ty, by simp [dsum], fun x => by simp [dsum, cnt]⟩
  | p :: r, acc, nd, ty, tl => by
    obtain ⟨h1, h2, h3, h4⟩ := dadd_facts nd ty (tl p List.mem_cons_self)
    obtain ⟨k1, k2, k3, k4⟩ := dsum_facts (l := r) h1 h2 fun q hq => tl q (List.mem_cons_of_mem _ hq)
    rw [dsum_cons]
    refine ⟨k1, k2, by simp only [List.length_cons]; omega, fun x => ?_⟩
    rw [k4, h4]
    simp only [cnt]; omega
theorem dsum_append {acc a b : Bg} : dsum acc (a ++ b) = dsum (dsum acc a) b := by simp [dsum]
/-- a dict begun anew of what has each key once is that -/
theorem dsum_new : ∀ {l acc : Bg}, (keys (acc ++ l)).Nodup → dsum acc l = acc ++ l
  | [], acc, _ => by simp [dsum]
  | p :: r, acc, nd => by
    have no : p.1 ∉ keys acc := by
      intro h
      unfold keys at nd h
      rw [List.map_append, List.nodup_append] at nd
      exact nd.2.2 _ h _ (by simp) rfl
    have e : dadd acc p = acc ++ [p] := by
      unfold dadd dset
      rw [any_keys, if_neg (by simpa using no), dget_none no]
      simp
    rw [dsum_cons, e, dsum_new (by simpa using nd)]
    simp
theorem srt_perm (l : List Pv) : (srt l).Perm l := List.mergeSort_perm _ _
theorem srt_le (l : List Pv) : (srt l).Pairwise fun a b => (!plt b a) = true := by
  refine List.pairwise_mergeSort (fun a b c h1 h2 => ?_) (fun a b => ?_) l
  · simp only [Bool.not_eq_true'] at h1 h2 ⊢
    cases e : plt c a with
    | false => rfl
    | true => rcases plt_neg (b := b) e with h | h
              · rw [h2] at h; cases h
              · rw [h1] at h; cases h
  · cases e : plt b a with
    | false => rfl
    | true => rw [plt_asymm e]; rfl
theorem srt_lt {k : Kd} {l : List Pv} (nd : l.Nodup) (ty : ∀ x ∈ l, hasP k x = true) : (srt l).Pairwise fun a b => plt a b = true := by
  have h1 := srt_le l
  have h2 : (srt l).Nodup := (List.Perm.nodup_iff (srt_perm l)).mpr nd
  have h3 : ∀ x ∈ srt l, hasP k x = true := fun x hx => ty x ((srt_perm l).mem_iff.mp hx)
  have h4 := List.pairwise_and_iff.mpr ⟨h1, h2⟩
  refine List.Pairwise.imp_of_mem (fun {a b} ha hb h => ?_) h4
  cases e : plt a b with
  | true => rfl
  | false => exact absurd (plt_total (h3 a ha) (h3 b hb) e (by simpa using h.1)) h.2
theorem keys_norm {l : Bg} : keys (norm l) = (srt (keys l)).filter fun x => decide ((dget l x).getD 0 ≠ 0) := by
  unfold keys norm
  rw [List.map_map]
  exact List.map_id _
theorem norm_bag {k : Kd} {l : Bg} (nd : (keys l).Nodup) (ty : typed k l) : IsBag k (norm l) := by
  have t2 : ∀ x ∈ keys l, hasP k x = true := fun x hx => by obtain ⟨p, hp, rfl⟩ := mem_keys.mp hx; exact ty p hp
  refine ⟨fun p hp => ?_, fun p hp => ?_, ?_⟩
  · obtain ⟨x, hx, rfl⟩ := List.mem_map.mp hp
    exact t2 x ((srt_perm _).mem_iff.mp (List.mem_filter.mp hx).1)
  · obtain ⟨x, hx, rfl⟩ := List.mem_map.mp hp
    exact of_decide_eq_true (List.mem_filter.mp hx).2
  · unfold norm
    rw [List.pairwise_map]
    exact (srt_lt nd t2).filter _
theorem cnt_fn {f : Pv → Int} : ∀ {l : List Pv} {x : Pv}, l.Nodup → cnt (l.map fun x => (x, f x)) x = if x ∈ l then f x else 0
  | [], x, _ => by simp [cnt]
  | a :: r, x, nd => by
    rw [List.nodup_cons] at nd
    simp only [List.map_cons, cnt]
    rw [cnt_fn nd.2]
    by_cases e : a = x
    · subst e
      simp [nd.1]
    · have e' : ¬ x = a := fun z => e z.symm
      simp [e, e']
theorem cnt_norm {l : Bg} {x : Pv} (nd : (keys l).Nodup) : cnt (norm l) x = cnt l x := by
  have n1 : (srt (keys l)).Nodup := (List.Perm.nodup_iff (srt_perm _)).mpr nd
  unfold norm
  rw [cnt_fn (n1.filter _), ← dget_cnt nd]
  by_cases h : x ∈ keys l
  · by_cases e : (dget l x).getD 0 = 0
    · rw [if_neg (by simp [e]), e]
    · rw [if_pos (List.mem_filter.mpr ⟨(srt_perm _).mem_iff.mpr h, by simpa using e⟩)]
  · rw [if_neg (fun z => h ((srt_perm _).mem_iff.mp (List.mem_filter.mp z).1)), dget_none h]; rfl
theorem norm_len {l : Bg} : (norm l).length ≤ l.length := by
  have : (keys (norm l)).length ≤ (keys l).length := by
    rw [keys_norm]
    refine Nat.le_trans (List.length_filter_le _ _) ?_
    rw [(srt_perm _).length_eq]; exact Nat.le_refl _
  simpa [keys] using this
theorem IsBag.nodup {k : Kd} {l : Bg} (h : IsBag k l) : (keys l).Nodup := by
  unfold keys
  refine List.pairwise_map.mpr (h.st.imp fun {a b} q e => ?_)
  rw [e, plt_irrefl] at q; cases q
theorem cnt_ahead {k : Kd} {l : Bg} {x : Pv} (h : ∀ p ∈ l, plt x p.1 = true) : cnt l x = 0 := cnt_none fun hx => by
  obtain ⟨p, hp, rfl⟩ := mem_keys.mp hx
  have := h p hp
  rw [plt_irrefl] at this; cases this
theorem bag_ext {k : Kd} : ∀ {a b : Bg}, IsBag k a → IsBag k b → (∀ x, cnt a x = cnt b x) → a = b
  | [], [], _, _, _ => rfl
  | [], q :: s, _, hb, h => by
    exfalso
    have e := h q.1
    have z := cnt_ahead (k := k) (l := s) (x := q.1) (List.pairwise_cons.mp hb.st).1
    simp only [cnt, z, if_true, Int.add_zero] at e
    exact hb.nz q List.mem_cons_self e.symm
  | p :: r, [], ha, _, h => by
    exfalso
    have e := h p.1
    have z := cnt_ahead (k := k) (l := r) (x := p.1) (List.pairwise_cons.mp ha.st).1
    simp only [cnt, z, if_true, Int.add_zero] at e
    exact ha.nz p List.mem_cons_self e
  | p :: r, q :: s, ha, hb, h => by
    have pa := List.pairwise_cons.mp ha.st
    have pb := List.pairwise_cons.mp hb.st
    have za := cnt_ahead (k := k) (l := r) (x := p.1) pa.1
    have zb := cnt_ahead (k := k) (l := s) (x := q.1) pb.1
    have low : ∀ {x : Pv} {l : Bg}, (∀ p ∈ l, plt x p.1 = true) → ∀ {y : Pv}, plt y x = true → cnt l y = 0 := by
      intro x l hl y hy
      exact cnt_ahead (k := k) fun p hp => plt_trans hy (hl p hp)
    have e1 : p.1 = q.1 := by
      refine plt_total (ha.ty p List.mem_cons_self) (hb.ty q List.mem_cons_self) ?_ ?_
      · cases e : plt p.1 q.1 with
        | false => rfl
        | true =>
          exfalso
          have c := h p.1
          have ne : ¬ q.1 = p.1 := fun z => by rw [z, plt_irrefl] at e; cases e
          simp only [cnt, za, if_true, Int.add_zero, if_neg ne, low pb.1 e] at c
          exact ha.nz p List.mem_cons_self c
      · cases e : plt q.1 p.1 with
        | false => rfl
        | true =>
          exfalso
          have c := h q.1
          have ne : ¬ p.1 = q.1 := fun z => by rw [z, plt_irrefl] at e; cases e
          simp only [cnt, zb, if_true, Int.add_zero, if_neg ne, low pa.1 e] at c
          exact hb.nz q List.mem_cons_self c.symm
    have e2 : p.2 = q.2 := by
      have c := h p.1
      simp only [cnt, za, if_true, Int.add_zero, if_pos e1.symm, low] at c
      rw [e1, zb, Int.add_zero] at c
      exact c
    have e3 : r = s := by
      refine bag_ext ⟨fun x hx => ha.ty x (List.mem_cons_of_mem _ hx), fun x hx => ha.nz x (List.mem_cons_of_mem _ hx), pa.2⟩ ⟨fun x hx => hb.ty x (List.mem_cons_of_mem _ hx), fun x hx => hb.nz x (List.mem_cons_of_mem _ hx), pb.2⟩ fun x => ?_
      have c := h x
      simp only [cnt, e1, e2] at c
      omega
    rw [e3, show p = q from Prod.ext e1 e2]
/-! sums and times -/
def bplus (a b : Bg) : Bg := norm (dsum a b)
def btimes (n : Int) (a : Bg) : Bg := if n ≠ 0 then a.map fun p => (p.1, n * p.2) else []
theorem nil_bag {k : Kd} : IsBag k [] := ⟨fun _ h => (nomatch h), fun _ h => (nomatch h), .nil⟩
theorem bplus_bag {k : Kd} {a b : Bg} (ha : IsBag k a) (hb : typed k b) : IsBag k (bplus a b) := by
  obtain ⟨h1, h2, _, _⟩ := dsum_facts ha.nodup ha.ty hb
  exact norm_bag h1 h2
theorem cnt_bplus {k : Kd} {a b : Bg} {x : Pv} (ha : IsBag k a) (hb : typed k b) : cnt (bplus a b) x = cnt a x + cnt b x := by
  obtain ⟨h1, h2, _, h4⟩ := dsum_facts ha.nodup ha.ty hb
  unfold bplus
  rw [cnt_norm h1, h4]
theorem cnt_btimes {n : Int} {a : Bg} {x : Pv} : cnt (btimes n a) x = n * cnt a x := by
  unfold btimes
  split
  · induction a with
    | nil => simp [cnt]
    | cons p r ih =>
      simp only [List.map_cons, cnt, ih, Int.mul_add]
      split <;> simp
  · rename_i h
    have : n = 0 := by omega
    simp [this, cnt]
theorem btimes_bag {k : Kd} {n : Int} {a : Bg} (ha : IsBag k a) : IsBag k (btimes n a) := by
  unfold btimes
  split
  · rename_i h
    refine ⟨fun p hp => ?_, fun p hp => ?_, ?_⟩
    · obtain ⟨q, hq, rfl⟩ := List.mem_map.mp hp; exact ha.ty q hq
    · obtain ⟨q, hq, rfl⟩ := List.mem_map.mp hp
      exact Int.mul_ne_zero h (ha.nz q hq)
    · rw [List.pairwise_map]; exact ha.st
  · exact nil_bag
end Cw

set_option Elab.async false
set_option linter.all false
set_option maxRecDepth 100000
set_option maxHeartbeats 1000000
/-! ThC: values of data kinds, sums, changes. -/
namespace Cw
open Ev
open PySem (Str PyData)
inductive Vl where
  | unit
  | num (i : Int)
  | pair (a b : Vl)
  | left (a : Vl)
  | right (a : Vl)
  | bag (l : Bg)
def encE (p : Pv × Int) : D := .tup [encP p.1, .int p.2]
def encV : Vl → D
  | .unit => .tup []
  | .num i => .int i
  | .pair a b => .tup [.str "pair", encV a, encV b]
  | .left a => .tup [.str "left", encV a]
  | .right a => .tup [.str "right", encV a]
  | .bag l => .tup (l.map encE)
def has : Kd → Vl → Prop
  | .unit, .unit => True
  | .num, .num _ => True
  | .bag k, .bag l => IsBag k l
  | .pair k l, .pair a b => has k a ∧ has l b
  | .either k _, .left a => has k a
  | .either _ l, .right b => has l b
  | _, _ => False
def emb : Pv → Vl
  | .unit => .unit
  | .num i => .num i
  | .pair a b => .pair (emb a) (emb b)
  | .left a => .left (emb a)
  | .right a => .right (emb a)
theorem enc_emb : ∀ p : Pv, encV (emb p) = encP p
  | .unit => rfl
  | .num _ => rfl
  | .pair a b => by simp [emb, encV, encP, enc_emb a, enc_emb b]
  | .left a => by simp [emb, encV, encP, enc_emb a]
  | .right a => by simp [emb, encV, encP, enc_emb a]
theorem has_emb : ∀ {k : Kd} {p : Pv}, hasP k p = true → has k (emb p) := by
  intro k
  induction k with
  | unit => intro p h; cases p <;> simp [hasP] at h; trivial
  | num => intro p h; cases p <;> simp [hasP] at h; trivial
  | bag k _ => intro p h; cases p <;> simp [hasP] at h
  | fn k l _ _ => intro p h; cases p <;> simp [hasP] at h
  | pair k l ihk ihl => intro p h; cases p <;> simp [hasP] at h; exact ⟨ihk h.1, ihl h.2⟩
  | either k l ihk ihl =>
    intro p h
    cases p <;> simp [hasP] at h
    · exact ihk h
    · exact ihl h
theorem emb_has : ∀ {k : Kd} {v : Vl}, k.pl = true → has k v → ∃ p, hasP k p = true ∧ emb p = v := by
  intro k
  induction k with
  | unit => intro v _ h; cases v <;> simp [has] at h; exact ⟨.unit, rfl, rfl⟩
  | num => intro v _ h; cases v <;> simp [has] at h; exact ⟨.num _, rfl, rfl⟩
  | bag k _ => intro v h; simp [Kd.pl] at h
  | fn k l _ _ => intro v h; simp [Kd.pl] at h
  | pair k l ihk ihl =>
    intro v hp h
    simp only [Kd.pl, Bool.and_eq_true] at hp
    cases v <;> simp only [has] at h
    obtain ⟨p, p1, rfl⟩ := ihk hp.1 h.1
    obtain ⟨q, q1, rfl⟩ := ihl hp.2 h.2
    exact ⟨.pair p q, by simp [hasP, p1, q1], rfl⟩
  | either k l ihk ihl =>
    intro v hp h
    simp only [Kd.pl, Bool.and_eq_true] at hp
    cases v <;> simp only [has] at h
    · obtain ⟨p, p1, rfl⟩ := ihk hp.1 h; exact ⟨.left p, by simp [hasP, p1], rfl⟩
    · obtain ⟨q, q1, rfl⟩ := ihl hp.2 h; exact ⟨.right q, by simp [hasP, q1], rfl⟩
/-! ### sums -/
def vplus : Vl → Vl → Vl
  | .num i, .num j => .num (i + j)
  | .bag a, .bag b => .bag (bplus a b)
  | .pair a b, .pair c d => .pair (vplus a c) (vplus b d)
  | _, _ => .unit
def vtimes (n : Int) : Vl → Vl
  | .num i => .num (n * i)
  | .bag a => .bag (btimes n a)
  | .pair a b => .pair (vtimes n a) (vtimes n b)
  | _ => .unit
def vzero : Kd → Vl
  | .num => .num 0
  | .bag _ => .bag []
  | .pair a b => .pair (vzero a) (vzero b)
  | _ => .unit
theorem has_num {v : Vl} (h : has .num v) : ∃ i, v = .num i := by cases v <;> simp only [has] at h; exact ⟨_, rfl⟩
theorem has_unit {v : Vl} (h : has .unit v) : v = .unit := by cases v <;> simp only [has] at h; rfl
theorem has_bag {k : Kd} {v : Vl} (h : has (.bag k) v) : ∃ l, v = .bag l ∧ IsBag k l := by cases v <;> simp only [has] at h; exact ⟨_, rfl, h⟩
theorem has_pair {k l : Kd} {v : Vl} (h : has (.pair k l) v) : ∃ a b, v = .pair a b ∧ has k a ∧ has l b := by cases v <;> simp only [has] at h; exact ⟨_, _, rfl, h⟩
theorem has_either {k l : Kd} {v : Vl} (h : has (.either k l) v) : (∃ a, v = .left a ∧ has k a) ∨ ∃ b, v = .right b ∧ has l b := by
  cases v <;> simp only [has] at h
  · exact .inl ⟨_, rfl, h⟩
  · exact .inr ⟨_, rfl, h⟩
/-- what holds of numbers and bags holds of groups -/
theorem gr_ind {C : Kd → Prop} (h1 : C .num) (h2 : ∀ k, k.pl = true → C (.bag k)) (h3 : ∀ k l, k.gr = true → l.gr = true → C k → C l → C (.pair k l)) : ∀ k : Kd, k.gr = true → C k
  | .num, _ => h1
  | .bag k, h => h2 k h
  | .pair k l, h => by
    simp only [Kd.gr, Bool.and_eq_true] at h
    exact h3 k l h.1 h.2 (gr_ind h1 h2 h3 k h.1) (gr_ind h1 h2 h3 l h.2)
  | .unit, h => by simp [Kd.gr] at h
  | .either _ _, h => by simp [Kd.gr] at h
  | .fn _ _, h => by simp [Kd.gr] at h
theorem plus_has {k : Kd} (g : k.gr = true) : ∀ {a b : Vl}, has k a → has k b → has k (vplus a b) := by
  revert g
  refine gr_ind (C := fun k => ∀ {a b : Vl}, has k a → has k b → has k (vplus a b)) ?_ ?_ ?_ k
  · intro a b ha hb
    obtain ⟨i, rfl⟩ := has_num ha; obtain ⟨j, rfl⟩ := has_num hb; trivial
  · intro k hk a b ha hb
    obtain ⟨i, rfl, h1⟩ := has_bag ha; obtain ⟨j, rfl, h2⟩ := has_bag hb
    exact bplus_bag h1 h2.ty
  · intro k l _ _ ihk ihl a b ha hb
    obtain ⟨a1, a2, rfl, h1, h2⟩ := has_pair ha; obtain ⟨b1, b2, rfl, h3, h4⟩ := has_pair hb
    exact ⟨ihk h1 h3, ihl h2 h4⟩
theorem times_has {k : Kd} (g : k.gr = true) {n : Int} : ∀ {a : Vl}, has k a → has k (vtimes n a) := by
  revert g
  refine gr_ind (C := fun k => ∀ {a : Vl}, has k a → has k (vtimes n a)) ?_ ?_ ?_ k
  · intro a ha
    obtain ⟨i, rfl⟩ := has_num ha; trivial
  · intro k hk a ha
    obtain ⟨i, rfl, h1⟩ := has_bag ha
    exact btimes_bag h1
  · intro k l _ _ ihk ihl a ha
    obtain ⟨a1, a2, rfl, h1, h2⟩ := has_pair ha
    exact ⟨ihk h1, ihl h2⟩
theorem zero_has {k : Kd} (g : k.gr = true) : has k (vzero k) := by
  revert g
  refine gr_ind (C := fun k => has k (vzero k)) trivial (fun k _ => nil_bag) (fun k l _ _ h1 h2 => ⟨h1, h2⟩) k
/-- the law of counts -/
def vcnt : Vl → Vl → Prop
  | .num i, .num j => i = j
  | .bag a, .bag b => ∀ x, cnt a x = cnt b x
  | .pair a b, .pair c d => vcnt a c ∧ vcnt b d
  | _, _ => False
theorem v_ext {k : Kd} (g : k.gr = true) : ∀ {a b : Vl}, has k a → has k b → vcnt a b → a = b := by
  revert g
  refine gr_ind (C := fun k => ∀ {a b : Vl}, has k a → has k b → vcnt a b → a = b) ?_ ?_ ?_ k
  · intro a b ha hb h
    obtain ⟨i, rfl⟩ := has_num ha; obtain ⟨j, rfl⟩ := has_num hb
    rw [show i = j from h]
  · intro k hk a b ha hb h
    obtain ⟨i, rfl, h1⟩ := has_bag ha; obtain ⟨j, rfl, h2⟩ := has_bag hb
    rw [bag_ext h1 h2 h]
  · intro k l _ _ ihk ihl a b ha hb h
    obtain ⟨a1, a2, rfl, h1, h2⟩ := has_pair ha; obtain ⟨b1, b2, rfl, h3, h4⟩ := has_pair hb
    rw [ihk h1 h3 h.1, ihl h2 h4 h.2]
/-- equations of sums and times: by numbers and counts -/
inductive Ex where
  | x (i : Fin 4)
  | z
  | p (a b : Ex)
  | t (n : Int) (a : Ex)
def Ex.int (f : Fin 4 → Int) : Ex → Int
  | .x i => f i
  | .z => 0
  | .p a b => a.int f + b.int f
  | .t n a => n * a.int f
def Ex.val (k : Kd) (f : Fin 4 → Vl) : Ex → Vl
  | .x i => f i
  | .z => vzero k
  | .p a b => vplus (a.val k f) (b.val k f)
  | .t n a => vtimes n (a.val k f)
theorem ex_has {k : Kd} (g : k.gr = true) {f : Fin 4 → Vl} (h : ∀ i, has k (f i)) : ∀ e : Ex, has k (e.val k f)
  | .x i => h i
  | .z => zero_has g
  | .p a b => plus_has g (ex_has g h a) (ex_has g h b)
  | .t n a => times_has g (ex_has g h a)
theorem ex_num {f : Fin 4 → Int} : ∀ e : Ex, e.val .num (fun i => .num (f i)) = .num (e.int f)
  | .x i => rfl
  | .z => rfl
  | .p a b => by simp only [Ex.val, ex_num a, ex_num b, vplus, Ex.int]
  | .t n a => by simp only [Ex.val, ex_num a, vtimes, Ex.int]
theorem ex_bag {k : Kd} {f : Fin 4 → Bg} (h : ∀ i, IsBag k (f i)) : ∀ e : Ex, ∃ l, e.val (.bag k) (fun i => .bag (f i)) = .bag l ∧ IsBag k l ∧ ∀ x, cnt l x = e.int fun i => cnt (f i) x
  | .x i => ⟨_, rfl, h i, fun _ => rfl⟩
  | .z => ⟨[], rfl, nil_bag, fun _ => rfl⟩
  | .p a b => by
    obtain ⟨l1, e1, b1, c1⟩ := ex_bag h a
    obtain ⟨l2, e2, b2, c2⟩ := ex_bag h b
    exact ⟨bplus l1 l2, by simp only [Ex.val, e1, e2, vplus], bplus_bag b1 b2.ty, fun x => by rw [cnt_bplus b1 b2.ty, c1, c2]; rfl⟩
  | .t n a => by
    obtain ⟨l1, e1, b1, c1⟩ := ex_bag h a
    exact ⟨btimes n l1, by simp only [Ex.val, e1, vtimes], btimes_bag b1, fun x => by rw [cnt_btimes, c1]; rfl⟩
theorem ex_pair {k l : Kd} {f : Fin 4 → Vl} {u v : Fin 4 → Vl} (h : ∀ i, f i = .pair (u i) (v i)) : ∀ e : Ex, e.val (.pair k l) f = .pair (e.val k u) (e.val l v)
  | .x i => h i
  | .z => rfl
  | .p a b => by simp only [Ex.val, ex_pair h a, ex_pair h b, vplus]
  | .t n a => by simp only [Ex.val, ex_pair h a, vtimes]
/-- two ways to reckon that agree of numbers agree of all groups -/
theorem ex_eq {k : Kd} (g : k.gr = true) (a b : Ex) (he : ∀ f : Fin 4 → Int, a.int f = b.int f) : ∀ {f : Fin 4 → Vl}, (∀ i, has k (f i)) → a.val k f = b.val k f := by
  revert g
  refine gr_ind (C := fun k => ∀ {f : Fin 4 → Vl}, (∀ i, has k (f i)) → a.val k f = b.val k f) ?_ ?_ ?_ k
  · intro f h
    obtain ⟨u, hu⟩ : ∃ u : Fin 4 → Int, f = fun i => .num (u i) := ⟨fun i => (has_num (h i)).choose, funext fun i => (has_num (h i)).choose_spec⟩
    rw [hu, ex_num, ex_num, he]
  · intro k hk f h
    obtain ⟨u, hu, hb⟩ : ∃ u : Fin 4 → Bg, f = (fun i => .bag (u i)) ∧ ∀ i, IsBag k (u i) := ⟨fun i => (has_bag (h i)).choose, funext fun i => (has_bag (h i)).choose_spec.1, fun i => (has_bag (h i)).choose_spec.2⟩
    rw [hu]
    obtain ⟨l1, e1, b1, c1⟩ := ex_bag hb a
    obtain ⟨l2, e2, b2, c2⟩ := ex_bag hb b
    rw [e1, e2, bag_ext b1 b2 fun x => by rw [c1, c2, he]]
  · intro k l _ _ ihk ihl f h
    have q : ∀ i, ∃ p : Vl × Vl, f i = .pair p.1 p.2 ∧ has k p.1 ∧ has l p.2 := fun i => by
      obtain ⟨x, y, e, h1, h2⟩ := has_pair (h i)
      exact ⟨(x, y), e, h1, h2⟩
    have fu : ∀ i, f i = .pair ((q i).choose.1) ((q i).choose.2) := fun i => (q i).choose_spec.1
    rw [ex_pair (u := fun i => (q i).choose.1) (v := fun i => (q i).choose.2) fu, ex_pair (u := fun i => (q i).choose.1) (v := fun i => (q i).choose.2) fu, ihk fun i => (q i).choose_spec.2.1, ihl fun i => (q i).choose_spec.2.2]
end Cw

set_option Elab.async false
set_option linter.all false
set_option maxRecDepth 100000
set_option maxHeartbeats 1000000
/-! ThD: changes of values. -/
namespace Cw
open Ev
open PySem (Str PyData)
def dK : Kd → Kd
  | .pair a b => .pair (dK a) (dK b)
  | .either a b => .either (.either (dK a) (dK b)) (.either a b)
  | .fn a b => .fn a (.fn (dK a) (dK b))
  | k => k
def vfits : Kd → Vl → Vl → Bool
  | .pair k l, .pair a b, .pair c d => vfits k a c && vfits l b d
  | .either k _, .left a, .left (.left c) => vfits k a c
  | .either _ l, .right b, .left (.right c) => vfits l b c
  | .either _ _, _, .right _ => true
  | .either _ _, _, _ => false
  | .pair _ _, _, _ => false
  | _, _, _ => true
def vled : Kd → Vl → Vl → Vl
  | .unit, _, _ => .unit
  | .pair k l, .pair a b, .pair c d => .pair (vled k a c) (vled l b d)
  | .either k _, .left a, .left (.left c) => .left (vled k a c)
  | .either _ l, .right b, .left (.right c) => .right (vled l b c)
  | .either _ _, _, .right w => w
  | .either _ _, v, _ => v
  | _, v, c => vplus v c
def vless : Kd → Vl → Vl → Vl
  | .unit, _, _ => .unit
  | .pair k l, .pair a b, .pair c d => .pair (vless k a c) (vless l b d)
  | .either k _, .left a, .left c => .left (.left (vless k a c))
  | .either _ l, .right b, .right c => .left (.right (vless l b c))
  | .either _ _, n, _ => .right n
  | _, n, o => vplus n (vtimes (-1) o)
def vnot : Kd → Vl → Vl
  | .unit, _ => .unit
  | .pair k l, .pair a b => .pair (vnot k a) (vnot l b)
  | .either k _, .left a => .left (.left (vnot k a))
  | .either _ l, .right a => .left (.right (vnot l a))
  | k, _ => vzero k
def vjoin : Kd → Vl → Vl → Vl
  | .unit, _, _ => .unit
  | .pair k l, .pair a b, .pair c d => .pair (vjoin k a c) (vjoin l b d)
  | .either _ _, _, .right w => .right w
  | .either k l, .right w, t => .right (vled (.either k l) w t)
  | .either k _, .left (.left c), .left (.left d) => .left (.left (vjoin k c d))
  | .either _ l, .left (.right c), .left (.right d) => .left (.right (vjoin l c d))
  | _, a, b => vplus a b
theorem has_dE {k l : Kd} {c : Vl} (h : has (dK (.either k l)) c) : (∃ a, c = .left (.left a) ∧ has (dK k) a) ∨ (∃ a, c = .left (.right a) ∧ has (dK l) a) ∨ ∃ w, c = .right w ∧ has (.either k l) w := by
  rcases has_either h with ⟨a, rfl, h1⟩ | ⟨w, rfl, h1⟩
  · rcases has_either h1 with ⟨b, rfl, h2⟩ | ⟨b, rfl, h2⟩
    · exact .inl ⟨b, rfl, h2⟩
    · exact .inr (.inl ⟨b, rfl, h2⟩)
  · exact .inr (.inr ⟨w, rfl, h1⟩)
/-- kinds of data, one by one -/
theorem dt_ind {C : Kd → Prop} (hu : C .unit) (h1 : C .num) (h2 : ∀ k, k.pl = true → C (.bag k)) (h3 : ∀ k l, k.dt = true → l.dt = true → C k → C l → C (.pair k l)) (h4 : ∀ k l, k.dt = true → l.dt = true → C k → C l → C (.either k l)) : ∀ k : Kd, k.dt = true → C k
  | .unit, _ => hu
  | .num, _ => h1
  | .bag k, h => h2 k h
  | .pair k l, h => by
    simp only [Kd.dt, Bool.and_eq_true] at h
    exact h3 k l h.1 h.2 (dt_ind hu h1 h2 h3 h4 k h.1) (dt_ind hu h1 h2 h3 h4 l h.2)
  | .either k l, h => by
    simp only [Kd.dt, Bool.and_eq_true] at h
    exact h4 k l h.1 h.2 (dt_ind hu h1 h2 h3 h4 k h.1) (dt_ind hu h1 h2 h3 h4 l h.2)
  | .fn _ _, h => by simp [Kd.dt] at h
theorem led_has {k : Kd} (g : k.dt = true) : ∀ {v c : Vl}, has k v → has (dK k) c → has k (vled k v c) := by
  revert g
  refine dt_ind (C := fun k => ∀ {v c : Vl}, has k v → has (dK k) c → has k (vled k v c)) ?_ ?_ ?_ ?_ ?_ k
  · intro v c hv hc; trivial
  · intro v c hv hc; exact plus_has (k := .num) rfl hv hc
  · intro k hk v c hv hc; exact plus_has (k := .bag k) hk hv hc
  · intro k l _ _ ihk ihl v c hv hc
    obtain ⟨a, b, rfl, h1, h2⟩ := has_pair hv
    obtain ⟨x, y, rfl, h3, h4⟩ := has_pair hc
    exact ⟨ihk h1 h3, ihl h2 h4⟩
  · intro k l _ _ ihk ihl v c hv hc
    rcases has_dE hc with ⟨a, rfl, h⟩ | ⟨a, rfl, h⟩ | ⟨w, rfl, h⟩ <;> rcases has_either hv with ⟨b, rfl, h'⟩ | ⟨b, rfl, h'⟩ <;> simp only [vled]
    · exact ihk h' h
    · exact hv
    · exact hv
    · exact ihl h' h
    · exact h
    · exact h
theorem less_has {k : Kd} (g : k.dt = true) : ∀ {n o : Vl}, has k n → has k o → has (dK k) (vless k n o) := by
  revert g
  refine dt_ind (C := fun k => ∀ {n o : Vl}, has k n → has k o → has (dK k) (vless k n o)) ?_ ?_ ?_ ?_ ?_ k
  · intro v c hv hc; trivial
  · intro v c hv hc; exact plus_has (k := .num) rfl hv (times_has (k := .num) rfl hc)
  · intro k hk v c hv hc; exact plus_has (k := .bag k) hk hv (times_has (k := .bag k) hk hc)
  · intro k l _ _ ihk ihl v c hv hc
    obtain ⟨a, b, rfl, h1, h2⟩ := has_pair hv
    obtain ⟨x, y, rfl, h3, h4⟩ := has_pair hc
    exact ⟨ihk h1 h3, ihl h2 h4⟩
  · intro k l _ _ ihk ihl v c hv hc
    rcases has_either hv with ⟨b, rfl, h'⟩ | ⟨b, rfl, h'⟩ <;> rcases has_either hc with ⟨a, rfl, h⟩ | ⟨a, rfl, h⟩ <;> simp only [vless, dK, has]
    · exact ihk h' h
    · exact h'
    · exact h'
    · exact ihl h' h
theorem fits_less {k : Kd} (g : k.dt = true) : ∀ {n o : Vl}, has k n → has k o → vfits k o (vless k n o) = true := by
  revert g
  refine dt_ind (C := fun k => ∀ {n o : Vl}, has k n → has k o → vfits k o (vless k n o) = true) ?_ ?_ ?_ ?_ ?_ k
  · intro v c hv hc; rfl
  · intro v c hv hc; rfl
  · intro k hk v c hv hc; rfl
  · intro k l _ _ ihk ihl v c hv hc
    obtain ⟨a, b, rfl, h1, h2⟩ := has_pair hv
    obtain ⟨x, y, rfl, h3, h4⟩ := has_pair hc
    simp only [vless, vfits, ihk h1 h3, ihl h2 h4, Bool.and_self]
  · intro k l _ _ ihk ihl v c hv hc
    rcases has_either hv with ⟨b, rfl, h'⟩ | ⟨b, rfl, h'⟩ <;> rcases has_either hc with ⟨a, rfl, h⟩ | ⟨a, rfl, h⟩ <;> simp only [vless, vfits]
    · exact ihk h' h
    · exact ihl h' h
theorem f4 {k : Kd} (g : k.gr = true) (a b : Ex) (he : ∀ f : Fin 4 → Int, a.int f = b.int f) {x y z w : Vl} (hx : has k x) (hy : has k y) (hz : has k z) (hw : has k w) : a.val k (fun i => [x, y, z, w][i]) = b.val k (fun i => [x, y, z, w][i]) :=
  ex_eq g a b he fun i => match i with
    | 0 => hx
    | 1 => hy
    | 2 => hz
    | 3 => hw
/-- o + (n - o) = n -/
theorem gr_back {k : Kd} (g : k.gr = true) {n o : Vl} (hn : has k n) (ho : has k o) : vplus o (vplus n (vtimes (-1) o)) = n :=
  f4 g (.p (.x 0) (.p (.x 1) (.t (-1) (.x 0)))) (.x 1) (fun f => by simp only [Ex.int]; omega) ho hn ho ho
theorem gr_zero {k : Kd} (g : k.gr = true) {v : Vl} (h : has k v) : vplus v (vtimes (-1) v) = vzero k :=
  f4 g (.p (.x 0) (.t (-1) (.x 0))) .z (fun f => by simp only [Ex.int]; omega) h h h h
theorem gr_right {k : Kd} (g : k.gr = true) {v : Vl} (h : has k v) : vplus v (vzero k) = v :=
  f4 g (.p (.x 0) .z) (.x 0) (fun f => by simp only [Ex.int]; omega) h h h h
theorem gr_left {k : Kd} (g : k.gr = true) {v : Vl} (h : has k v) : vplus (vzero k) v = v :=
  f4 g (.p .z (.x 0)) (.x 0) (fun f => by simp only [Ex.int]; omega) h h h h
theorem gr_assoc {k : Kd} (g : k.gr = true) {a b c : Vl} (ha : has k a) (hb : has k b) (hc : has k c) : vplus (vplus a b) c = vplus a (vplus b c) :=
  f4 g (.p (.p (.x 0) (.x 1)) (.x 2)) (.p (.x 0) (.p (.x 1) (.x 2))) (fun f => by simp only [Ex.int]; omega) ha hb hc hc
theorem gr_comm {k : Kd} (g : k.gr = true) {a b : Vl} (ha : has k a) (hb : has k b) : vplus a b = vplus b a :=
  f4 g (.p (.x 0) (.x 1)) (.p (.x 1) (.x 0)) (fun f => by simp only [Ex.int]; omega) ha hb hb hb
theorem led_less {k : Kd} (g : k.dt = true) : ∀ {n o : Vl}, has k n → has k o → vled k o (vless k n o) = n := by
  revert g
  refine dt_ind (C := fun k => ∀ {n o : Vl}, has k n → has k o → vled k o (vless k n o) = n) ?_ ?_ ?_ ?_ ?_ k
  · intro v c hv hc; rw [has_unit hv]; rfl
  · intro v c hv hc; exact gr_back (k := .num) rfl hv hc
  · intro k hk v c hv hc; exact gr_back (k := .bag k) hk hv hc
  · intro k l _ _ ihk ihl v c hv hc
    obtain ⟨a, b, rfl, h1, h2⟩ := has_pair hv
    obtain ⟨x, y, rfl, h3, h4⟩ := has_pair hc
    simp only [vless, vled, ihk h1 h3, ihl h2 h4]
  · intro k l _ _ ihk ihl v c hv hc
    rcases has_either hv with ⟨b, rfl, h'⟩ | ⟨b, rfl, h'⟩ <;> rcases has_either hc with ⟨a, rfl, h⟩ | ⟨a, rfl, h⟩ <;> simp only [vless, vled]
    · rw [ihk h' h]
    · rw [ihl h' h]
theorem not_less {k : Kd} (g : k.dt = true) : ∀ {v : Vl}, has k v → vnot k v = vless k v v := by
  revert g
  refine dt_ind (C := fun k => ∀ {v : Vl}, has k v → vnot k v = vless k v v) ?_ ?_ ?_ ?_ ?_ k
  · intro v hv; rfl
  · intro v hv; exact (gr_zero (k := .num) rfl hv).symm
  · intro k hk v hv; exact (gr_zero (k := .bag k) hk hv).symm
  · intro k l _ _ ihk ihl v hv
    obtain ⟨a, b, rfl, h1, h2⟩ := has_pair hv
    simp only [vless, vnot, ihk h1, ihl h2]
  · intro k l _ _ ihk ihl v hv
    rcases has_either hv with ⟨b, rfl, h'⟩ | ⟨b, rfl, h'⟩ <;> simp only [vless, vnot]
    · rw [ihk h']
    · rw [ihl h']
/-! groups -/
theorem dK_gr {k : Kd} (g : k.gr = true) : dK k = k := by
  revert g
  exact gr_ind (C := fun k => dK k = k) rfl (fun k _ => rfl) (fun k l _ _ h1 h2 => by simp only [dK, h1, h2]) k
theorem fits_gr {k : Kd} (g : k.gr = true) : ∀ {v c : Vl}, has k v → has k c → vfits k v c = true := by
  revert g
  refine gr_ind (C := fun k => ∀ {v c : Vl}, has k v → has k c → vfits k v c = true) (fun _ _ => rfl) (fun k _ _ _ _ _ => rfl) (fun k l _ _ ihk ihl v c hv hc => ?_) k
  obtain ⟨a, b, rfl, h1, h2⟩ := has_pair hv
  obtain ⟨x, y, rfl, h3, h4⟩ := has_pair hc
  simp only [vfits, ihk h1 h3, ihl h2 h4, Bool.and_self]
theorem led_gr {k : Kd} (g : k.gr = true) : ∀ {v c : Vl}, has k v → has k c → vled k v c = vplus v c := by
  revert g
  refine gr_ind (C := fun k => ∀ {v c : Vl}, has k v → has k c → vled k v c = vplus v c) (fun _ _ => rfl) (fun k _ _ _ _ _ => rfl) (fun k l _ _ ihk ihl v c hv hc => ?_) k
  obtain ⟨a, b, rfl, h1, h2⟩ := has_pair hv
  obtain ⟨x, y, rfl, h3, h4⟩ := has_pair hc
  simp only [vled, vplus, ihk h1 h3, ihl h2 h4]
theorem less_gr {k : Kd} (g : k.gr = true) : ∀ {v c : Vl}, has k v → has k c → vless k v c = vplus v (vtimes (-1) c) := by
  revert g
  refine gr_ind (C := fun k => ∀ {v c : Vl}, has k v → has k c → vless k v c = vplus v (vtimes (-1) c)) (fun _ _ => rfl) (fun k _ _ _ _ _ => rfl) (fun k l _ _ ihk ihl v c hv hc => ?_) k
  obtain ⟨a, b, rfl, h1, h2⟩ := has_pair hv
  obtain ⟨x, y, rfl, h3, h4⟩ := has_pair hc
  simp only [vless, vplus, vtimes, ihk h1 h3, ihl h2 h4]
theorem not_gr {k : Kd} (g : k.gr = true) : ∀ {v : Vl}, has k v → vnot k v = vzero k := by
  revert g
  refine gr_ind (C := fun k => ∀ {v : Vl}, has k v → vnot k v = vzero k) (fun _ => rfl) (fun k _ _ _ => rfl) (fun k l _ _ ihk ihl v hv => ?_) k
  obtain ⟨a, b, rfl, h1, h2⟩ := has_pair hv
  simp only [vnot, vzero, ihk h1, ihl h2]
theorem join_gr {k : Kd} (g : k.gr = true) : ∀ {v c : Vl}, has k v → has k c → vjoin k v c = vplus v c := by
  revert g
  refine gr_ind (C := fun k => ∀ {v c : Vl}, has k v → has k c → vjoin k v c = vplus v c) (fun _ _ => rfl) (fun k _ _ _ _ _ => rfl) (fun k l _ _ ihk ihl v c hv hc => ?_) k
  obtain ⟨a, b, rfl, h1, h2⟩ := has_pair hv
  obtain ⟨x, y, rfl, h3, h4⟩ := has_pair hc
  simp only [vjoin, vplus, ihk h1 h3, ihl h2 h4]
/-! one change behind the other -/
theorem join_facts {k : Kd} (g : k.dt = true) : ∀ {v c d : Vl}, has k v → has (dK k) c → has (dK k) d → vfits k v c = true → vfits k (vled k v c) d = true →
    has (dK k) (vjoin k c d) ∧ vfits k v (vjoin k c d) = true ∧ vled k v (vjoin k c d) = vled k (vled k v c) d := by
  revert g
  refine dt_ind (C := fun k => ∀ {v c d : Vl}, has k v → has (dK k) c → has (dK k) d → vfits k v c = true → vfits k (vled k v c) d = true → has (dK k) (vjoin k c d) ∧ vfits k v (vjoin k c d) = true ∧ vled k v (vjoin k c d) = vled k (vled k v c) d) ?_ ?_ ?_ ?_ ?_ k
  · intro v c d hv hc hd _ _; exact ⟨trivial, rfl, rfl⟩
  · intro v c d hv hc hd _ _; exact ⟨plus_has (k := .num) rfl hc hd, rfl, (gr_assoc (k := .num) rfl hv hc hd).symm⟩
  · intro k hk v c d hv hc hd _ _; exact ⟨plus_has (k := .bag k) hk hc hd, rfl, (gr_assoc (k := .bag k) hk hv hc hd).symm⟩
  · intro k l _ _ ihk ihl v c d hv hc hd f1 f2
    obtain ⟨a, b, rfl, h1, h2⟩ := has_pair hv
    obtain ⟨x, y, rfl, h3, h4⟩ := has_pair hc
    obtain ⟨z, w, rfl, h5, h6⟩ := has_pair hd
    simp only [vfits, vled, Bool.and_eq_true] at f1 f2
    obtain ⟨p1, p2, p3⟩ := ihk h1 h3 h5 f1.1 f2.1
    obtain ⟨q1, q2, q3⟩ := ihl h2 h4 h6 f1.2 f2.2
    simp only [vjoin, vfits, vled, p2, q2, p3, q3, Bool.and_self, and_self, and_true]
    exact ⟨p1, q1⟩
  · intro k l gk gl ihk ihl v c d hv hc hd f1 f2
    have gE : (Kd.either k l).dt = true := by simp [Kd.dt, gk, gl]
    have right : ∀ {w}, d = .right w → has (.either k l) w → _ := fun {w} e h => (show has (dK (.either k l)) (vjoin (.either k l) c d) ∧ vfits (.either k l) v (vjoin (.either k l) c d) = true ∧ vled (.either k l) v (vjoin (.either k l) c d) = vled (.either k l) (vled (.either k l) v c) d by
      subst e
      have e1 : vjoin (.either k l) c (.right w) = .right w := by
        cases c <;> simp only [vjoin]
      have e2 : ∀ u, vled (.either k l) u (.right w) = w := fun u => by cases u <;> simp only [vled]
      have e3 : ∀ u, vfits (.either k l) u (.right w) = true := fun u => by cases u <;> simp only [vfits]
      rw [e1, e2, e2, e3]
      exact ⟨h, rfl, rfl⟩)
    rcases has_dE hd with ⟨x, rfl, hx⟩ | ⟨x, rfl, hx⟩ | ⟨w, e, h⟩
    · rcases has_dE hc with ⟨y, rfl, hy⟩ | ⟨y, rfl, hy⟩ | ⟨w, rfl, h⟩
      · rcases has_either hv with ⟨b, rfl, h'⟩ | ⟨b, rfl, h'⟩
        · simp only [vfits, vled] at f1 f2
          obtain ⟨p1, p2, p3⟩ := ihk h' hy hx f1 f2
          simp only [vjoin, vfits, vled, p2, p3, and_self, and_true]
          exact p1
        · simp [vfits] at f1
      · rcases has_either hv with ⟨b, rfl, h'⟩ | ⟨b, rfl, h'⟩
        · simp [vfits] at f1
        · simp [vfits, vled] at f2
      · have e0 : vled (.either k l) v (.right w) = w := by cases v <;> simp only [vled]
        have e1 : vjoin (.either k l) (.right w) (.left (.left x)) = .right (vled (.either k l) w (.left (.left x))) := by simp only [vjoin]
        rw [e0] at f2
        rw [e1, e0]
        refine ⟨led_has gE h hd, by cases v <;> simp only [vfits], by cases v <;> simp only [vled]⟩
    · rcases has_dE hc with ⟨y, rfl, hy⟩ | ⟨y, rfl, hy⟩ | ⟨w, rfl, h⟩
      · rcases has_either hv with ⟨b, rfl, h'⟩ | ⟨b, rfl, h'⟩
        · simp [vfits, vled] at f2
        · simp [vfits] at f1
      · rcases has_either hv with ⟨b, rfl, h'⟩ | ⟨b, rfl, h'⟩
        · simp [vfits] at f1
        · simp only [vfits, vled] at f1 f2
          obtain ⟨p1, p2, p3⟩ := ihl h' hy hx f1 f2
          simp only [vjoin, vfits, vled, p2, p3, and_self, and_true]
          exact p1
      · have e0 : vled (.either k l) v (.right w) = w := by cases v <;> simp only [vled]
        have e1 : vjoin (.either k l) (.right w) (.left (.right x)) = .right (vled (.either k l) w (.left (.right x))) := by simp only [vjoin]
        rw [e0] at f2
        rw [e1, e0]
        refine ⟨led_has gE h hd, by cases v <;> simp only [vfits], by cases v <;> simp only [vled]⟩
    · exact right e h
theorem join_assoc {k : Kd} (g : k.dt = true) : ∀ {v c d e : Vl}, has k v → has (dK k) c → has (dK k) d → has (dK k) e → vfits k v c = true → vfits k (vled k v c) d = true → vfits k (vled k (vled k v c) d) e = true →
    vjoin k (vjoin k c d) e = vjoin k c (vjoin k d e) := by
  revert g
  refine dt_ind (C := fun k => ∀ {v c d e : Vl}, has k v → has (dK k) c → has (dK k) d → has (dK k) e → vfits k v c = true → vfits k (vled k v c) d = true → vfits k (vled k (vled k v c) d) e = true → vjoin k (vjoin k c d) e = vjoin k c (vjoin k d e)) ?_ ?_ ?_ ?_ ?_ k
  · intro v c d e hv hc hd he _ _ _; rfl
  · intro v c d e hv hc hd he _ _ _; exact gr_assoc (k := .num) rfl hc hd he
  · intro k hk v c d e hv hc hd he _ _ _; exact gr_assoc (k := .bag k) hk hc hd he
  · intro k l _ _ ihk ihl v c d e hv hc hd he f1 f2 f3
    obtain ⟨a, b, rfl, h1, h2⟩ := has_pair hv
    obtain ⟨x, y, rfl, h3, h4⟩ := has_pair hc
    obtain ⟨z, w, rfl, h5, h6⟩ := has_pair hd
    obtain ⟨s, t, rfl, h7, h8⟩ := has_pair he
    simp only [vfits, vled, Bool.and_eq_true] at f1 f2 f3
    simp only [vjoin, ihk h1 h3 h5 h7 f1.1 f2.1 f3.1, ihl h2 h4 h6 h8 f1.2 f2.2 f3.2]
  · intro k l gk gl ihk ihl v c d e hv hc hd he f1 f2 f3
    have gE : (Kd.either k l).dt = true := by simp [Kd.dt, gk, gl]
    have jr : ∀ {x w}, vjoin (.either k l) x (.right w) = .right w := fun {x w} => by cases x <;> simp only [vjoin]
    have lr : ∀ {u w}, vled (.either k l) u (.right w) = w := fun {u w} => by cases u <;> simp only [vled]
    rcases has_dE he with ⟨x, rfl, hx⟩ | ⟨x, rfl, hx⟩ | ⟨w, rfl, h⟩
    · rcases has_dE hd with ⟨y, rfl, hy⟩ | ⟨y, rfl, hy⟩ | ⟨w, rfl, h⟩
      · rcases has_dE hc with ⟨z, rfl, hz⟩ | ⟨z, rfl, hz⟩ | ⟨w, rfl, h⟩
        · rcases has_either hv with ⟨b, rfl, h'⟩ | ⟨b, rfl, h'⟩
          · simp only [vfits, vled] at f1 f2 f3
            simp only [vjoin, ihk h' hz hy hx f1 f2 f3]
          · simp [vfits] at f1
        · rcases has_either hv with ⟨b, rfl, h'⟩ | ⟨b, rfl, h'⟩
          · simp [vfits] at f1
          · simp [vfits, vled] at f2
        · rw [lr] at f2 f3
          simp only [vjoin]
          rw [(join_facts gE h hd he f2 f3).2.2.symm]
          simp only [vjoin]
      · rcases has_dE hc with ⟨z, rfl, hz⟩ | ⟨z, rfl, hz⟩ | ⟨w, rfl, h⟩
        · rcases has_either hv with ⟨b, rfl, h'⟩ | ⟨b, rfl, h'⟩
          · simp [vfits, vled] at f2
          · simp [vfits] at f1
        · rcases has_either hv with ⟨b, rfl, h'⟩ | ⟨b, rfl, h'⟩
          · simp [vfits] at f1
          · simp [vfits, vled] at f3
        · rw [lr] at f2 f3
          rcases has_either h with ⟨b, rfl, h'⟩ | ⟨b, rfl, h'⟩
          · simp [vfits] at f2
          · simp [vfits, vled] at f3
      · simp only [vjoin, jr]
    · rcases has_dE hd with ⟨y, rfl, hy⟩ | ⟨y, rfl, hy⟩ | ⟨w, rfl, h⟩
      · rcases has_dE hc with ⟨z, rfl, hz⟩ | ⟨z, rfl, hz⟩ | ⟨w, rfl, h⟩
        · rcases has_either hv with ⟨b, rfl, h'⟩ | ⟨b, rfl, h'⟩
          · simp [vfits, vled] at f3
          · simp [vfits] at f1
        · rcases has_either hv with ⟨b, rfl, h'⟩ | ⟨b, rfl, h'⟩
          · simp [vfits] at f1
          · simp [vfits, vled] at f2
        · rw [lr] at f2 f3
          rcases has_either h with ⟨b, rfl, h'⟩ | ⟨b, rfl, h'⟩
          · simp [vfits, vled] at f3
          · simp [vfits] at f2
      · rcases has_dE hc with ⟨z, rfl, hz⟩ | ⟨z, rfl, hz⟩ | ⟨w, rfl, h⟩
        · rcases has_either hv with ⟨b, rfl, h'⟩ | ⟨b, rfl, h'⟩
          · simp [vfits, vled] at f2
          · simp [vfits] at f1
        · rcases has_either hv with ⟨b, rfl, h'⟩ | ⟨b, rfl, h'⟩
          · simp [vfits] at f1
          · simp only [vfits, vled] at f1 f2 f3
            simp only [vjoin, ihl h' hz hy hx f1 f2 f3]
        · rw [lr] at f2 f3
          simp only [vjoin]
          rw [(join_facts gE h hd he f2 f3).2.2.symm]
          simp only [vjoin]
      · simp only [vjoin, jr]
    · simp only [jr]
/-- nothing ahead -/
theorem join_not {k : Kd} (g : k.dt = true) : ∀ {v c : Vl}, has k v → has (dK k) c → vfits k v c = true → vjoin k (vnot k v) c = c := by
  revert g
  refine dt_ind (C := fun k => ∀ {v c : Vl}, has k v → has (dK k) c → vfits k v c = true → vjoin k (vnot k v) c = c) ?_ ?_ ?_ ?_ ?_ k
  · intro v c hv hc _; rw [has_unit hc]; rfl
  · intro v c hv hc _; exact gr_left (k := .num) rfl hc
  · intro k hk v c hv hc _; exact gr_left (k := .bag k) hk hc
  · intro k l _ _ ihk ihl v c hv hc f
    obtain ⟨a, b, rfl, h1, h2⟩ := has_pair hv
    obtain ⟨x, y, rfl, h3, h4⟩ := has_pair hc
    simp only [vfits, Bool.and_eq_true] at f
    simp only [vnot, vjoin, ihk h1 h3 f.1, ihl h2 h4 f.2]
  · intro k l _ _ ihk ihl v c hv hc f
    rcases has_dE hc with ⟨y, rfl, hy⟩ | ⟨y, rfl, hy⟩ | ⟨w, rfl, h⟩ <;> rcases has_either hv with ⟨b, rfl, h'⟩ | ⟨b, rfl, h'⟩ <;> simp only [vfits, Bool.false_eq_true] at f <;> simp only [vnot, vjoin]
    · rw [ihk h' hy f]
    · rw [ihl h' hy f]
theorem led_not {k : Kd} (g : k.dt = true) {v : Vl} (h : has k v) : vled k v (vnot k v) = v := by rw [not_less g h]; exact led_less g h h
/-- nothing behind -/
theorem not_join {k : Kd} (g : k.dt = true) : ∀ {v c : Vl}, has k v → has (dK k) c → vfits k v c = true → vjoin k c (vnot k (vled k v c)) = c := by
  revert g
  refine dt_ind (C := fun k => ∀ {v c : Vl}, has k v → has (dK k) c → vfits k v c = true → vjoin k c (vnot k (vled k v c)) = c) ?_ ?_ ?_ ?_ ?_ k
  · intro v c hv hc _; rw [has_unit hc]; rfl
  · intro v c hv hc _
    show vplus c (vzero .num) = c
    exact gr_right (k := .num) rfl hc
  · intro k hk v c hv hc _
    show vplus c (vzero (.bag k)) = c
    exact gr_right (k := .bag k) hk hc
  · intro k l _ _ ihk ihl v c hv hc f
    obtain ⟨a, b, rfl, h1, h2⟩ := has_pair hv
    obtain ⟨x, y, rfl, h3, h4⟩ := has_pair hc
    simp only [vfits, Bool.and_eq_true] at f
    simp only [vled, vnot, vjoin, ihk h1 h3 f.1, ihl h2 h4 f.2]
  · intro k l gk gl ihk ihl v c hv hc f
    have gE : (Kd.either k l).dt = true := by simp [Kd.dt, gk, gl]
    rcases has_dE hc with ⟨y, rfl, hy⟩ | ⟨y, rfl, hy⟩ | ⟨w, rfl, h⟩
    · rcases has_either hv with ⟨b, rfl, h'⟩ | ⟨b, rfl, h'⟩ <;> simp only [vfits, Bool.false_eq_true] at f
      simp only [vled, vnot, vjoin, ihk h' hy f]
    · rcases has_either hv with ⟨b, rfl, h'⟩ | ⟨b, rfl, h'⟩ <;> simp only [vfits, Bool.false_eq_true] at f
      simp only [vled, vnot, vjoin, ihl h' hy f]
    · have e0 : vled (.either k l) v (.right w) = w := by cases v <;> simp only [vled]
      rw [e0]
      have := led_not gE h
      rcases has_either h with ⟨b, rfl, h'⟩ | ⟨b, rfl, h'⟩
      · simp only [vnot] at this ⊢
        simp only [vjoin, this]
      · simp only [vnot] at this ⊢
        simp only [vjoin, this]
end Cw

set_option Elab.async false
set_option linter.all false
set_option maxRecDepth 100000
set_option maxHeartbeats 1000000
/-! ThE: how long values are as texts; what is shown of them. -/
namespace Cw
open Ev
open PySem (Str PyData)
def mI (i : Int) : Nat := i.natAbs.log2 + 3
def mP : Pv → Nat
  | .unit => 3
  | .num i => mI i
  | .pair a b => 20 + mP a + mP b
  | .left a => 20 + mP a
  | .right a => 20 + mP a
def mE (p : Pv × Int) : Nat := mP p.1 + mI p.2 + 10
def mB : Bg → Nat
  | [] => 0
  | p :: r => mE p + mB r
def ms : Vl → Nat
  | .unit => 3
  | .num i => mI i
  | .pair a b => 20 + ms a + ms b
  | .left a => 20 + ms a
  | .right a => 20 + ms a
  | .bag l => 3 + mB l
theorem mI_pos (i : Int) : 3 ≤ mI i := by unfold mI; omega
theorem log2_add {a b : Nat} : (a + b).log2 ≤ a.log2 + b.log2 + 1 := by
  by_cases h : a + b = 0
  · rw [h]; simp
  · have ha : a < 2 ^ (a.log2 + 1) := Nat.lt_log2_self
    have hb : b < 2 ^ (b.log2 + 1) := Nat.lt_log2_self
    have : a + b < 2 ^ (a.log2 + b.log2 + 2) := by
      have p1 : 2 ^ (a.log2 + 1) ≤ 2 ^ (a.log2 + b.log2 + 1) := Nat.pow_le_pow_right (by decide) (by omega)
      have p2 : 2 ^ (b.log2 + 1) ≤ 2 ^ (a.log2 + b.log2 + 1) := Nat.pow_le_pow_right (by decide) (by omega)
      have e : 2 ^ (a.log2 + b.log2 + 2) = 2 ^ (a.log2 + b.log2 + 1) * 2 := Nat.pow_succ _ _
      omega
    have := (Nat.log2_lt h).mpr this
    omega
theorem log2_mono {a b : Nat} (h : a ≤ b) : a.log2 ≤ b.log2 := by
  by_cases h0 : a = 0
  · subst h0; simp
  · have hb : b < 2 ^ (b.log2 + 1) := Nat.lt_log2_self
    have := (Nat.log2_lt h0).mpr (Nat.lt_of_le_of_lt h hb)
    omega
theorem mI_add (i j : Int) : mI (i + j) ≤ mI i + mI j := by
  unfold mI
  have h1 : (i + j).natAbs ≤ i.natAbs + j.natAbs := Int.natAbs_add_le i j
  have h2 := log2_mono h1
  have h3 := log2_add (a := i.natAbs) (b := j.natAbs)
  omega
theorem mI_neg (i : Int) : mI (-1 * i) = mI i := by unfold mI; rw [show -1 * i = -i by omega, Int.natAbs_neg]
theorem mI_mul (n i : Int) : mI (n * i) ≤ mI n + mI i := by
  unfold mI
  rw [Int.natAbs_mul]
  by_cases h : n.natAbs * i.natAbs = 0
  · rw [h]; simp; omega
  · have ha : n.natAbs < 2 ^ (n.natAbs.log2 + 1) := Nat.lt_log2_self
    have hb : i.natAbs < 2 ^ (i.natAbs.log2 + 1) := Nat.lt_log2_self
    have : n.natAbs * i.natAbs < 2 ^ (n.natAbs.log2 + i.natAbs.log2 + 2) := by
      have e : 2 ^ (n.natAbs.log2 + i.natAbs.log2 + 2) = 2 ^ (n.natAbs.log2 + 1) * 2 ^ (i.natAbs.log2 + 1) := by rw [← Nat.pow_add]; congr 1; omega
      rw [e]
      exact Nat.mul_lt_mul'' ha hb
    have := (Nat.log2_lt h).mpr this
    omega
theorem mI_le {i : Int} {k : Nat} (h : i.natAbs < 2 ^ k) : mI i ≤ k + 3 := by
  unfold mI
  by_cases h0 : i.natAbs = 0
  · rw [h0]; simp
  · have := (Nat.log2_lt h0).mpr h
    omega
theorem mB_append {a b : Bg} : mB (a ++ b) = mB a + mB b := by
  induction a with
  | nil => simp [mB]
  | cons p r ih => simp only [List.cons_append, mB, ih]; omega
theorem mB_len {a : Bg} : 10 * a.length ≤ mB a := by
  induction a with
  | nil => simp
  | cons p r ih => simp only [List.length_cons, mB, mE]; omega
theorem dset_not {l : Bg} {x : Pv} {v : Int} (h : x ∉ keys l) : dset l x v = l ++ [(x, v)] := by
  unfold dset
  rw [any_keys, if_neg (by simpa using h)]
theorem mB_map {l : Bg} {x : Pv} {v d : Int} (nd : (keys l).Nodup) (hx : x ∈ keys l) (hv : mI v ≤ mI ((dget l x).getD 0) + mI d) : mB (l.map fun p => if p.1 = x then (p.1, v) else p) ≤ mB l + mI d := by
  induction l with
  | nil => cases hx
  | cons p r ih =>
    simp only [keys, List.map_cons, List.nodup_cons, List.mem_cons] at nd hx
    rw [List.map_cons]
    by_cases e : p.1 = x
    · have no : x ∉ keys r := by rw [← e]; exact nd.1
      have same : (r.map fun p => if p.1 = x then (p.1, v) else p) = r := by
        refine (List.map_congr_left fun q hq => ?_).trans (List.map_id r)
        rw [if_neg]; rfl
        intro z; exact no (mem_keys.mpr ⟨q, hq, z⟩)
      rw [same, if_pos e]
      simp only [dget, if_pos e, Option.getD_some] at hv
      simp only [mB, mE]; omega
    · rw [if_neg e]
      simp only [dget, if_neg e] at hv
      have := ih nd.2 (hx.resolve_left fun z => e z.symm) hv
      simp only [mB]; omega
theorem mB_dadd {l : Bg} {p : Pv × Int} (nd : (keys l).Nodup) : mB (dadd l p) ≤ mB l + mE p := by
  unfold dadd
  by_cases h : p.1 ∈ keys l
  · unfold dset
    rw [any_keys, if_pos (decide_eq_true h)]
    have := mB_map (v := (dget l p.1).getD 0 + p.2) (d := p.2) nd h (mI_add _ _)
    unfold mE; omega
  · rw [dset_not h, mB_append, dget_none h]
    simp [mB, mE]
theorem mB_dsum : ∀ {l acc : Bg}, (keys acc).Nodup → mB (dsum acc l) ≤ mB acc + mB l
  | [], acc, _ => by simp [dsum, mB]
  | p :: r, acc, nd => by
    rw [dsum_cons]
    have h1 := mB_dadd (p := p) nd
    have h2 := mB_dsum (l := r) (dset_nodup (x := p.1) (v := (dget acc p.1).getD 0 + p.2) nd)
    have h2 : mB (dsum (dadd acc p) r) ≤ mB (dadd acc p) + mB r := h2
    simp only [mB]; omega
def mK (f : Pv → Int) : List Pv → Nat
  | [] => 0
  | x :: r => mE (x, f x) + mK f r
theorem mK_map {f : Pv → Int} : ∀ {l : List Pv}, mB (l.map fun x => (x, f x)) = mK f l
  | [] => rfl
  | x :: r => by simp only [List.map_cons, mB, mK, mK_map (l := r)]
theorem mK_perm {f : Pv → Int} {a b : List Pv} (h : a.Perm b) : mK f a = mK f b := by
  induction h with
  | nil => rfl
  | cons x _ ih => simp only [mK, ih]
  | swap x y l => simp only [mK]; omega
  | trans _ _ h1 h2 => rw [h1, h2]
theorem mK_filter {f : Pv → Int} {p : Pv → Bool} : ∀ {l : List Pv}, mK f (l.filter p) ≤ mK f l
  | [] => Nat.le_refl _
  | x :: r => by
    have := mK_filter (f := f) (p := p) (l := r)
    rw [List.filter_cons]
    split <;> simp only [mK] <;> omega
theorem mK_keys {f : Pv → Int} : ∀ {l : Bg}, (∀ p ∈ l, f p.1 = p.2) → mK f (keys l) = mB l
  | [], _ => rfl
  | p :: r, h => by
    have e := h p List.mem_cons_self
    have := mK_keys (f := f) (l := r) fun q hq => h q (List.mem_cons_of_mem _ hq)
    show mE (p.1, f p.1) + mK f (keys r) = mE p + mB r
    rw [e, this]
theorem dget_mem {l : Bg} (nd : (keys l).Nodup) : ∀ p ∈ l, (dget l p.1).getD 0 = p.2 := by
  induction l with
  | nil => intro p h; cases h
  | cons q r ih =>
    simp only [keys, List.map_cons, List.nodup_cons] at nd
    intro p hp
    rcases List.mem_cons.mp hp with rfl | hp
    · simp [dget]
    · have : ¬ q.1 = p.1 := fun z => nd.1 (by rw [z]; exact mem_keys.mpr ⟨p, hp, rfl⟩)
      simp only [dget, if_neg this]
      exact ih nd.2 p hp
theorem mB_norm {l : Bg} (nd : (keys l).Nodup) : mB (norm l) ≤ mB l := by
  unfold norm
  rw [mK_map]
  refine Nat.le_trans mK_filter ?_
  rw [mK_perm (srt_perm _), mK_keys (dget_mem nd)]
  exact Nat.le_refl _
theorem mB_bplus {k : Kd} {a b : Bg} (ha : IsBag k a) : mB (bplus a b) ≤ mB a + mB b := by
  unfold bplus
  by_cases h : typed k b
  · obtain ⟨h1, _⟩ := dsum_facts ha.nodup ha.ty h
    exact Nat.le_trans (mB_norm h1) (mB_dsum ha.nodup)
  · have : (keys (dsum a b)).Nodup := by
      have go : ∀ (b a : Bg), (keys a).Nodup → (keys (dsum a b)).Nodup := by
        intro b
        induction b with
        | nil => intro a h; exact h
        | cons p r ih => intro a h; exact ih _ (dset_nodup h)
      exact go b a ha.nodup
    exact Nat.le_trans (mB_norm this) (mB_dsum ha.nodup)
theorem mB_neg {a : Bg} : mB (btimes (-1) a) = mB a := by
  unfold btimes
  rw [if_pos (by decide)]
  induction a with
  | nil => rfl
  | cons p r ih => simp only [List.map_cons, mB, ih, mE, mI_neg]
theorem mB_times {n : Int} {a : Bg} : mB (btimes n a) ≤ mB a * mI n := by
  unfold btimes
  have p := mI_pos n
  split
  · induction a with
    | nil => simp [mB]
    | cons q r ih =>
      simp only [List.map_cons, mB, Nat.add_mul]
      refine Nat.add_le_add ?_ ih
      have h1 := mI_mul n q.2
      have h2 := mI_pos q.2
      unfold mE
      have h3 : mI n + mI q.2 ≤ mI n * mI q.2 := by
        obtain ⟨a, ha⟩ : ∃ a, mI n = a + 3 := ⟨mI n - 3, by omega⟩
        obtain ⟨b, hb⟩ : ∃ b, mI q.2 = b + 3 := ⟨mI q.2 - 3, by omega⟩
        rw [ha, hb, Nat.add_mul, Nat.mul_add, Nat.mul_add]
        have := Nat.zero_le (a * b)
        omega
      have h4 : mP q.1 ≤ mP q.1 * mI n := Nat.le_mul_of_pos_right _ (by omega)
      have h5 : 10 ≤ 10 * mI n := by omega
      rw [Nat.add_mul, Nat.add_mul, Nat.mul_comm (mI q.2)]
      show mP q.1 + mI (n * q.2) + 10 ≤ _
      omega
  · simp [mB]
theorem ms_plus {k : Kd} (g : k.gr = true) : ∀ {a b : Vl}, has k a → has k b → ms (vplus a b) ≤ ms a + ms b := by
  revert g
  refine gr_ind (C := fun k => ∀ {a b : Vl}, has k a → has k b → ms (vplus a b) ≤ ms a + ms b) ?_ ?_ ?_ k
  · intro a b ha hb
    obtain ⟨i, rfl⟩ := has_num ha; obtain ⟨j, rfl⟩ := has_num hb
    exact mI_add i j
  · intro k hk a b ha hb
    obtain ⟨i, rfl, h1⟩ := has_bag ha; obtain ⟨j, rfl, h2⟩ := has_bag hb
    have := mB_bplus (b := j) h1
    simp only [vplus, ms]; omega
  · intro k l _ _ ihk ihl a b ha hb
    obtain ⟨a1, a2, rfl, h1, h2⟩ := has_pair ha; obtain ⟨b1, b2, rfl, h3, h4⟩ := has_pair hb
    have := ihk h1 h3
    have := ihl h2 h4
    simp only [vplus, ms]; omega
theorem ms_neg : ∀ {a : Vl}, ms (vtimes (-1) a) ≤ ms a
  | .unit => Nat.le_refl _
  | .num i => by simp only [vtimes, ms, mI_neg]; exact Nat.le_refl _
  | .pair a b => by
    have := ms_neg (a := a)
    have := ms_neg (a := b)
    simp only [vtimes, ms]; omega
  | .left a => by simp only [vtimes, ms]; omega
  | .right a => by simp only [vtimes, ms]; omega
  | .bag l => by simp only [vtimes, ms, mB_neg]; exact Nat.le_refl _
theorem ms_times {n : Int} : ∀ {a : Vl}, ms (vtimes n a) ≤ ms a * mI n
  | .unit => by have := mI_pos n; simp only [vtimes, ms]; omega
  | .num i => by
    have h1 := mI_mul n i
    have h2 := mI_pos i
    have p := mI_pos n
    simp only [vtimes, ms]
    obtain ⟨a, ha⟩ : ∃ a, mI n = a + 3 := ⟨mI n - 3, by omega⟩
    obtain ⟨b, hb⟩ : ∃ b, mI i = b + 3 := ⟨mI i - 3, by omega⟩
    rw [ha, hb] at h1 ⊢
    rw [Nat.add_mul, Nat.mul_add, Nat.mul_add]
    have := Nat.zero_le (b * a)
    omega
  | .pair a b => by
    have h1 := ms_times (n := n) (a := a)
    have h2 := ms_times (n := n) (a := b)
    have p := mI_pos n
    simp only [vtimes, ms, Nat.add_mul]; omega
  | .left a => by have := mI_pos n; simp only [vtimes, ms, Nat.add_mul]; omega
  | .right a => by have := mI_pos n; simp only [vtimes, ms, Nat.add_mul]; omega
  | .bag l => by
    have h1 := mB_times (n := n) (a := l)
    have p := mI_pos n
    simp only [vtimes, ms, Nat.add_mul]; omega
theorem ms_pos : ∀ v : Vl, 3 ≤ ms v
  | .unit => Nat.le_refl _
  | .num i => mI_pos i
  | .pair a b => by simp only [ms]; omega
  | .left a => by simp only [ms]; omega
  | .right a => by simp only [ms]; omega
  | .bag l => by simp only [ms]; omega
theorem ms_led {k : Kd} (g : k.dt = true) : ∀ {v c : Vl}, has k v → has (dK k) c → ms (vled k v c) ≤ ms v + ms c := by
  revert g
  refine dt_ind (C := fun k => ∀ {v c : Vl}, has k v → has (dK k) c → ms (vled k v c) ≤ ms v + ms c) ?_ ?_ ?_ ?_ ?_ k
  · intro v c hv hc; have := ms_pos v; simp only [vled, ms]; omega
  · intro v c hv hc; exact ms_plus (k := .num) rfl hv hc
  · intro k hk v c hv hc; exact ms_plus (k := .bag k) hk hv hc
  · intro k l _ _ ihk ihl v c hv hc
    obtain ⟨a, b, rfl, h1, h2⟩ := has_pair hv
    obtain ⟨x, y, rfl, h3, h4⟩ := has_pair hc
    have := ihk h1 h3
    have := ihl h2 h4
    simp only [vled, ms]; omega
  · intro k l _ _ ihk ihl v c hv hc
    rcases has_dE hc with ⟨a, rfl, h⟩ | ⟨a, rfl, h⟩ | ⟨w, rfl, h⟩ <;> rcases has_either hv with ⟨b, rfl, h'⟩ | ⟨b, rfl, h'⟩ <;> simp only [vled, ms]
    · have := ihk h' h; omega
    · omega
    · omega
    · have := ihl h' h; omega
    · omega
    · omega
theorem ms_less {k : Kd} (g : k.dt = true) : ∀ {v c : Vl}, has k v → has k c → ms (vless k v c) ≤ ms v + ms c := by
  revert g
  refine dt_ind (C := fun k => ∀ {v c : Vl}, has k v → has k c → ms (vless k v c) ≤ ms v + ms c) ?_ ?_ ?_ ?_ ?_ k
  · intro v c hv hc; have := ms_pos v; simp only [vless, ms]; omega
  · intro v c hv hc
    have h1 := ms_plus (k := .num) rfl hv (times_has (k := .num) (n := -1) rfl hc)
    have h2 := ms_neg (a := c)
    simp only [vless]; omega
  · intro k hk v c hv hc
    have h1 := ms_plus (k := .bag k) hk hv (times_has (k := .bag k) (n := -1) hk hc)
    have h2 := ms_neg (a := c)
    simp only [vless]; omega
  · intro k l _ _ ihk ihl v c hv hc
    obtain ⟨a, b, rfl, h1, h2⟩ := has_pair hv
    obtain ⟨x, y, rfl, h3, h4⟩ := has_pair hc
    have := ihk h1 h3
    have := ihl h2 h4
    simp only [vless, ms]; omega
  · intro k l _ _ ihk ihl v c hv hc
    rcases has_either hv with ⟨b, rfl, h'⟩ | ⟨b, rfl, h'⟩ <;> rcases has_either hc with ⟨a, rfl, h⟩ | ⟨a, rfl, h⟩ <;> simp only [vless, ms]
    · have := ihk h' h; omega
    · omega
    · omega
    · have := ihl h' h; omega
theorem ms_join {k : Kd} (g : k.dt = true) : ∀ {v c : Vl}, has (dK k) v → has (dK k) c → (∀ w, ms w = ms w) → ms (vjoin k v c) ≤ ms v + ms c + 20 := by
  revert g
  refine dt_ind (C := fun k => ∀ {v c : Vl}, has (dK k) v → has (dK k) c → (∀ w, ms w = ms w) → ms (vjoin k v c) ≤ ms v + ms c + 20) ?_ ?_ ?_ ?_ ?_ k
  · intro v c hv hc _; have := ms_pos v; simp only [vjoin, ms]; omega
  · intro v c hv hc _; have := ms_plus (k := .num) rfl hv hc; simp only [vjoin]; omega
  · intro k hk v c hv hc _; have := ms_plus (k := .bag k) hk hv hc; simp only [vjoin]; omega
  · intro k l _ _ ihk ihl v c hv hc _
    obtain ⟨a, b, rfl, h1, h2⟩ := has_pair hv
    obtain ⟨x, y, rfl, h3, h4⟩ := has_pair hc
    have := ihk h1 h3 fun _ => rfl
    have := ihl h2 h4 fun _ => rfl
    simp only [vjoin, ms]; omega
  · intro k l gk gl ihk ihl v c hv hc _
    have gE : (Kd.either k l).dt = true := by simp [Kd.dt, gk, gl]
    rcases has_dE hc with ⟨a, rfl, h⟩ | ⟨a, rfl, h⟩ | ⟨w, rfl, h⟩
    · rcases has_dE hv with ⟨b, rfl, h'⟩ | ⟨b, rfl, h'⟩ | ⟨w, rfl, h'⟩
      · have := ihk h' h fun _ => rfl
        simp only [vjoin, ms]; omega
      · simp only [vjoin, vplus, ms]; omega
      · have := ms_led gE h' hc
        simp only [ms] at this
        simp only [vjoin, ms]; omega
    · rcases has_dE hv with ⟨b, rfl, h'⟩ | ⟨b, rfl, h'⟩ | ⟨w, rfl, h'⟩
      · simp only [vjoin, vplus, ms]; omega
      · have := ihl h' h fun _ => rfl
        simp only [vjoin, ms]; omega
      · have := ms_led gE h' hc
        simp only [ms] at this
        simp only [vjoin, ms]; omega
    · have e1 : vjoin (.either k l) v (.right w) = .right w := by cases v <;> simp only [vjoin]
      rw [e1]; omega
/-! ### what is shown of values -/
mutual
/-- as many signs at most -/
def mD : D → Nat
  | .non => 4
  | .bl _ => 5
  | .int i => mI i
  | .str s => (PySem.PyData.shown (.str s)).length
  | .tup l => 3 + mDs l
  | .lst l => 3 + mDs l
  | .rol l => 3 + mDs l
  | _ => 0
def mDs : List D → Nat
  | [] => 0
  | d :: r => mD d + 2 + mDs r
end
mutual
/-- what can be shown -/
def shw : Nat → D → Bool
  | _, .non => true
  | _, .bl _ => true
  | _, .int i => decide (i.natAbs.log2 < 1920)
  | _, .str _ => true
  | n + 1, .tup l => shws n l
  | n + 1, .lst l => shws n l
  | n + 1, .rol l => shws n l
  | _, _ => false
def shws : Nat → List D → Bool
  | _, [] => true
  | n, d :: r => shw n d && shws n r
end
theorem shown_int (i : Int) : (PyData.shown (.int i)).length ≤ mI i := by
  have h := PySem.int_text_length_le (a := i) (k := i.natAbs.log2 + 1) (Nat.succ_pos _) (Nat.lt_succ_self _)
  show (PySem.Str.ofString (toString i)).length ≤ mI i
  rw [PySem.ofString_length]
  unfold mI; omega
mutual
theorem mD_ok : ∀ {d : D} {p : PyData}, d.py = some p → p.shown.length ≤ mD d
  | .non, p, h => by cases h; decide +kernel
  | .bl b, p, h => by cases h; cases b <;> decide +kernel
  | .int i, p, h => by cases h; simp only [mD]; exact shown_int i
  | .str s, p, h => by cases h; simp only [mD]; exact Nat.le_refl _
  | .tup l, p, h => by
    simp only [D.py, Option.map_eq_some_iff] at h
    obtain ⟨ps, h1, rfl⟩ := h
    have h2 := mDs_ok h1
    have h3 := PySem.tupleText_len_le (PyData.shownAll ps)
    simp only [PyData.shown, mD]; omega
  | .lst l, p, h => by
    simp only [D.py, Option.map_eq_some_iff] at h
    obtain ⟨ps, h1, rfl⟩ := h
    have h2 := mDs_ok h1
    have h3 := PySem.listText_len_le (PyData.shownAll ps)
    simp only [PyData.shown, mD]; omega
  | .rol l, p, h => by
    simp only [D.py, Option.map_eq_some_iff] at h
    obtain ⟨ps, h1, rfl⟩ := h
    have h2 := mDs_ok h1
    have h3 := PySem.listText_len_le (PyData.shownAll ps)
    simp only [PyData.shown, mD]; omega
  | .wtp _, p, h => by cases h
  | .dct _, p, h => by cases h
  | .obj _, p, h => by cases h
  | .fn _, p, h => by cases h
  | .ty _, p, h => by cases h
theorem mDs_ok : ∀ {l : List D} {ps : List PyData}, pys l = some ps → ((PyData.shownAll ps).map (·.length)).sum + 2 * (PyData.shownAll ps).length ≤ mDs l
  | [], ps, h => by cases h; simp [PyData.shownAll, mDs]
  | d :: r, ps, h => by
    simp only [pys] at h
    split at h
    · rename_i x y e1 e2
      cases h
      have h1 := mD_ok e1
      have h2 := mDs_ok e2
      simp only [PyData.shownAll, List.map_cons, List.sum_cons, List.length_cons, mDs]; omega
    · cases h
end
mutual
theorem shw_py : ∀ {n : Nat} {d : D}, shw n d = true → ∃ p, d.py = some p ∧ p.showable = true ∧ p.depth ≤ n
  | n, .non, _ => ⟨_, rfl, by simp only [PyData.showable], by simp only [PyData.depth]; omega⟩
  | n, .bl b, _ => ⟨_, rfl, by simp only [PyData.showable], by simp only [PyData.depth]; omega⟩
  | n, .int i, h => ⟨_, rfl, by simp only [PyData.showable]; simpa [shw] using h, by simp only [PyData.depth]; omega⟩
  | n, .str s, _ => ⟨_, rfl, by simp only [PyData.showable], by simp only [PyData.depth]; omega⟩
  | 0, .tup l, h => by simp [shw] at h
  | 0, .lst l, h => by simp [shw] at h
  | 0, .rol l, h => by simp [shw] at h
  | n + 1, .tup l, h => by
    obtain ⟨ps, h1, h2, h3⟩ := shws_py (n := n) (l := l) (by simpa [shw] using h)
    exact ⟨.tuple ps, by simp [D.py, h1], by simpa [PyData.showable] using h2, by simp only [PyData.depth]; omega⟩
  | n + 1, .lst l, h => by
    obtain ⟨ps, h1, h2, h3⟩ := shws_py (n := n) (l := l) (by simpa [shw] using h)
    exact ⟨.list ps, by simp [D.py, h1], by simpa [PyData.showable] using h2, by simp only [PyData.depth]; omega⟩
  | n + 1, .rol l, h => by
    obtain ⟨ps, h1, h2, h3⟩ := shws_py (n := n) (l := l) (by simpa [shw] using h)
    exact ⟨.list ps, by simp [D.py, h1], by simpa [PyData.showable] using h2, by simp only [PyData.depth]; omega⟩
  | n, .wtp _, h => by cases n <;> simp [shw] at h
  | n, .dct _, h => by cases n <;> simp [shw] at h
  | n, .obj _, h => by cases n <;> simp [shw] at h
  | n, .fn _, h => by cases n <;> simp [shw] at h
  | n, .ty _, h => by cases n <;> simp [shw] at h
theorem shws_py : ∀ {n : Nat} {l : List D}, shws n l = true → ∃ ps, pys l = some ps ∧ PyData.showableAll ps = true ∧ PyData.depthAll ps ≤ n
  | n, [], _ => ⟨[], rfl, by simp [PyData.showableAll], by simp [PyData.depthAll]⟩
  | n, d :: r, h => by
    simp only [shws, Bool.and_eq_true] at h
    obtain ⟨p, h1, h2, h3⟩ := shw_py h.1
    obtain ⟨ps, h4, h5, h6⟩ := shws_py h.2
    refine ⟨p :: ps, by simp only [pys, h1, h4], by simp [PyData.showableAll, h2, h5], by simp only [PyData.depthAll]; omega⟩
end
/-- repr(x), x not too long -/
theorem repr_ok {x : D} {n : Nat} {call : D → List D → Mem → Res D} (h : shw n x = true) (hn : n ≤ 60) (hm : mD x ≤ LIM) : ∃ s, x.py = some s ∧ ∀ M, bltD call .repr [x] M = .ok (.str s.shown) M := by
  obtain ⟨p, h1, h2, h3⟩ := shw_py h
  have h4 := mD_ok h1
  have top : ∀ M, x.top M = x := fun M => by cases x <;> first | rfl | (simp [D.py] at h1)
  refine ⟨p, h1, fun M => ?_⟩
  have h5 : p.depth ≤ 60 := by omega
  have h6 : p.shown.length ≤ LIM := by omega
  unfold bltD
  simp only [top, h1, h2, h5, h6, decide_true, Bool.and_self, if_true]
theorem shw_mono : ∀ {n m : Nat} {d : D}, shw n d = true → n ≤ m → shw m d = true := by
  have go : ∀ (n m : Nat), n ≤ m → (∀ d, shw n d = true → shw m d = true) ∧ ∀ l, shws n l = true → shws m l = true := by
    intro n
    induction n with
    | zero =>
      intro m hm
      have one : ∀ d, shw 0 d = true → shw m d = true := fun d h => by
        cases d <;> simp [shw] at h <;> cases m <;> simp [shw, h]
      refine ⟨one, fun l => ?_⟩
      induction l with
      | nil => intro _; cases m <;> simp [shws]
      | cons d r ih =>
        intro h
        simp only [shws, Bool.and_eq_true] at h ⊢
        exact ⟨one d h.1, ih h.2⟩
    | succ n ih =>
      intro m hm
      obtain ⟨m, rfl, hm'⟩ := succ_of hm
      obtain ⟨_, i2⟩ := ih m hm'
      have one : ∀ d, shw (n + 1) d = true → shw (m + 1) d = true := fun d h => by
        cases d <;> simp [shw] at h <;> simp [shw, h] <;> exact i2 _ h
      refine ⟨one, fun l => ?_⟩
      induction l with
      | nil => intro _; simp [shws]
      | cons d r ihr =>
        intro h
        simp only [shws, Bool.and_eq_true] at h ⊢
        exact ⟨one d h.1, ihr h.2⟩
  intro n m d h hm
  exact (go n m hm).1 d h
theorem len_w : (PyData.shown (.str "pair")).length = 6 ∧ (PyData.shown (.str "left")).length = 6 ∧ (PyData.shown (.str "right")).length = 7 := by decide +kernel
theorem mD_encP : ∀ p : Pv, mD (encP p) ≤ mP p
  | .unit => by simp [encP, mD, mDs, mP]
  | .num i => by simp [encP, mD, mP]
  | .pair a b => by
    have := mD_encP a
    have := mD_encP b
    have := len_w.1
    simp only [encP, mD, mDs, mP]; omega
  | .left a => by
    have := mD_encP a
    have := len_w.2.1
    simp only [encP, mD, mDs, mP]; omega
  | .right a => by
    have := mD_encP a
    have := len_w.2.2
    simp only [encP, mD, mDs, mP]; omega
theorem mD_encV : ∀ v : Vl, mD (encV v) ≤ ms v
  | .unit => by simp [encV, mD, mDs, ms]
  | .num i => by simp [encV, mD, ms]
  | .pair a b => by
    have := mD_encV a
    have := mD_encV b
    have := len_w.1
    simp only [encV, mD, mDs, ms]; omega
  | .left a => by
    have := mD_encV a
    have := len_w.2.1
    simp only [encV, mD, mDs, ms]; omega
  | .right a => by
    have := mD_encV a
    have := len_w.2.2
    simp only [encV, mD, mDs, ms]; omega
  | .bag l => by
    have go : ∀ l : Bg, mDs (l.map encE) ≤ mB l := by
      intro l
      induction l with
      | nil => simp [mDs, mB]
      | cons p r ih =>
        have := mD_encP p.1
        simp only [List.map_cons, mDs, mB, mE, encE, mD]; omega
    have := go l
    simp only [encV, mD, ms]; omega
/-! ### no number too long -/
def bdP (n : Nat) : Pv → Prop
  | .unit => True
  | .num i => mI i ≤ n
  | .pair a b => bdP n a ∧ bdP n b
  | .left a => bdP n a
  | .right a => bdP n a
def bdB (n : Nat) (l : Bg) : Prop := ∀ p ∈ l, bdP n p.1 ∧ mI p.2 ≤ n
def bdV (n : Nat) : Vl → Prop
  | .unit => True
  | .num i => mI i ≤ n
  | .pair a b => bdV n a ∧ bdV n b
  | .left a => bdV n a
  | .right a => bdV n a
  | .bag l => bdB n l
theorem bdP_mono {n m : Nat} (h : n ≤ m) : ∀ {p : Pv}, bdP n p → bdP m p
  | .unit, _ => trivial
  | .num i, k => Nat.le_trans k h
  | .pair a b, k => ⟨bdP_mono h k.1, bdP_mono h k.2⟩
  | .left a, k => bdP_mono (p := a) h k
  | .right a, k => bdP_mono (p := a) h k
theorem bdV_mono {n m : Nat} (h : n ≤ m) : ∀ {v : Vl}, bdV n v → bdV m v
  | .unit, _ => trivial
  | .num i, k => Nat.le_trans k h
  | .pair a b, k => ⟨bdV_mono h k.1, bdV_mono h k.2⟩
  | .left a, k => bdV_mono (v := a) h k
  | .right a, k => bdV_mono (v := a) h k
  | .bag l, k => fun p hp => ⟨bdP_mono h (k p hp).1, Nat.le_trans (k p hp).2 h⟩
theorem bd_cnt {n : Nat} {l : Bg} (nd : (keys l).Nodup) (h : bdB n l) (h3 : 3 ≤ n) (x : Pv) : mI (cnt l x) ≤ n := by
  rw [← dget_cnt nd]
  by_cases hx : x ∈ keys l
  · obtain ⟨p, hp, rfl⟩ := mem_keys.mp hx
    rw [dget_mem nd p hp]
    exact (h p hp).2
  · rw [dget_none hx]
    show mI 0 ≤ n
    have : mI 0 = 3 := by decide +kernel
    omega
theorem keys_dsum : ∀ {l acc : Bg} {x : Pv}, x ∈ keys (dsum acc l) → x ∈ keys acc ∨ x ∈ keys l
  | [], acc, x, h => .inl h
  | p :: r, acc, x, h => by
    rw [dsum_cons] at h
    rcases keys_dsum h with h | h
    · unfold dadd at h
      rw [dset_keys] at h
      split at h
      · exact .inl h
      · rcases List.mem_append.mp h with h | h
        · exact .inl h
        · rw [List.mem_singleton] at h; rw [h]; exact .inr (by simp [keys])
    · exact .inr (by simp only [keys, List.map_cons, List.mem_cons]; exact .inr h)
theorem bd_bplus {k : Kd} {n m : Nat} {a b : Bg} (ha : IsBag k a) (hb : IsBag k b) (h1 : bdB n a) (h2 : bdB m b) (h3 : 3 ≤ n) (h4 : 3 ≤ m) : bdB (n + m) (bplus a b) := by
  obtain ⟨f1, f2, f3, f4⟩ := dsum_facts ha.nodup ha.ty hb.ty
  have nb := (norm_bag f1 f2).nodup
  intro p hp
  have e1 : p.2 = cnt a p.1 + cnt b p.1 := by
    rw [← cnt_bplus ha hb.ty]
    show _ = cnt (norm (dsum a b)) p.1
    rw [← dget_cnt nb]
    exact (dget_mem nb p hp).symm
  constructor
  · have : p.1 ∈ keys (norm (dsum a b)) := mem_keys.mpr ⟨p, hp, rfl⟩
    rw [keys_norm] at this
    have := (srt_perm _).mem_iff.mp (List.mem_filter.mp this).1
    rcases keys_dsum this with h | h
    · obtain ⟨q, hq, e⟩ := mem_keys.mp h
      rw [← e]; exact bdP_mono (by omega) (h1 q hq).1
    · obtain ⟨q, hq, e⟩ := mem_keys.mp h
      rw [← e]; exact bdP_mono (by omega) (h2 q hq).1
  · rw [e1]
    have := mI_add (cnt a p.1) (cnt b p.1)
    have := bd_cnt ha.nodup h1 h3 p.1
    have := bd_cnt hb.nodup h2 h4 p.1
    omega
theorem bd_plus {k : Kd} (g : k.gr = true) {n m : Nat} (h3 : 3 ≤ n) (h4 : 3 ≤ m) : ∀ {a b : Vl}, has k a → has k b → bdV n a → bdV m b → bdV (n + m) (vplus a b) := by
  revert g
  refine gr_ind (C := fun k => ∀ {a b : Vl}, has k a → has k b → bdV n a → bdV m b → bdV (n + m) (vplus a b)) ?_ ?_ ?_ k
  · intro a b ha hb h1 h2
    obtain ⟨i, rfl⟩ := has_num ha; obtain ⟨j, rfl⟩ := has_num hb
    have := mI_add i j
    simp only [bdV] at h1 h2
    simp only [vplus, bdV]; omega
  · intro k hk a b ha hb h1 h2
    obtain ⟨i, rfl, b1⟩ := has_bag ha; obtain ⟨j, rfl, b2⟩ := has_bag hb
    exact bd_bplus b1 b2 h1 h2 h3 h4
  · intro k l _ _ ihk ihl a b ha hb h1 h2
    obtain ⟨a1, a2, rfl, p1, p2⟩ := has_pair ha; obtain ⟨b1, b2, rfl, p3, p4⟩ := has_pair hb
    exact ⟨ihk p1 p3 h1.1 h2.1, ihl p2 p4 h1.2 h2.2⟩
theorem bd_times {n m : Nat} {i : Int} (hi : mI i ≤ m) : ∀ {a : Vl}, bdV n a → bdV (m + n) (vtimes i a)
  | .unit, _ => trivial
  | .num j, h => by
    have := mI_mul i j
    simp only [bdV] at h
    simp only [vtimes, bdV]; omega
  | .pair a b, h => ⟨bd_times hi h.1, bd_times hi h.2⟩
  | .left a, _ => trivial
  | .right a, _ => trivial
  | .bag l, h => by
    simp only [vtimes, bdV, btimes]
    split
    · intro p hp
      obtain ⟨q, hq, rfl⟩ := List.mem_map.mp hp
      have := mI_mul i q.2
      have := (h q hq).2
      exact ⟨bdP_mono (by omega) (h q hq).1, by dsimp only; omega⟩
    · intro p hp; cases hp
theorem bd_neg {n : Nat} : ∀ {a : Vl}, bdV n a → bdV n (vtimes (-1) a)
  | .unit, _ => trivial
  | .num j, h => by simp only [vtimes, bdV, mI_neg]; exact h
  | .pair a b, h => ⟨bd_neg h.1, bd_neg h.2⟩
  | .left a, _ => trivial
  | .right a, _ => trivial
  | .bag l, h => by
    simp only [vtimes, bdV, btimes]
    rw [if_pos (by decide)]
    intro p hp
    obtain ⟨q, hq, rfl⟩ := List.mem_map.mp hp
    exact ⟨(h q hq).1, by dsimp only; rw [mI_neg]; exact (h q hq).2⟩
theorem bd_zero {k : Kd} : bdV 3 (vzero k) := by
  induction k with
  | num => show mI 0 ≤ 3; decide +kernel
  | pair a b iha ihb => exact ⟨iha, ihb⟩
  | bag a _ => intro p hp; cases hp
  | unit => trivial
  | either _ _ _ _ => trivial
  | fn _ _ _ _ => trivial
theorem bd_led {k : Kd} (g : k.dt = true) {n m : Nat} (h3 : 3 ≤ n) (h4 : 3 ≤ m) : ∀ {v c : Vl}, has k v → has (dK k) c → bdV n v → bdV m c → bdV (n + m) (vled k v c) := by
  revert g
  refine dt_ind (C := fun k => ∀ {v c : Vl}, has k v → has (dK k) c → bdV n v → bdV m c → bdV (n + m) (vled k v c)) ?_ ?_ ?_ ?_ ?_ k
  · intro v c hv hc _ _; trivial
  · intro v c hv hc h1 h2; exact bd_plus (k := .num) rfl h3 h4 hv hc h1 h2
  · intro k hk v c hv hc h1 h2; exact bd_plus (k := .bag k) hk h3 h4 hv hc h1 h2
  · intro k l _ _ ihk ihl v c hv hc h1 h2
    obtain ⟨a1, a2, rfl, p1, p2⟩ := has_pair hv; obtain ⟨b1, b2, rfl, p3, p4⟩ := has_pair hc
    exact ⟨ihk p1 p3 h1.1 h2.1, ihl p2 p4 h1.2 h2.2⟩
  · intro k l _ _ ihk ihl v c hv hc h1 h2
    rcases has_dE hc with ⟨a, rfl, h⟩ | ⟨a, rfl, h⟩ | ⟨w, rfl, h⟩ <;> rcases has_either hv with ⟨b, rfl, h'⟩ | ⟨b, rfl, h'⟩ <;> simp only [vled]
    · exact ihk h' h h1 h2
    · exact bdV_mono (by omega) h1
    · exact bdV_mono (by omega) h1
    · exact ihl h' h h1 h2
    · exact bdV_mono (v := w) (by omega) h2
    · exact bdV_mono (v := w) (by omega) h2
theorem bd_less {k : Kd} (g : k.dt = true) {n m : Nat} (h3 : 3 ≤ n) (h4 : 3 ≤ m) : ∀ {v c : Vl}, has k v → has k c → bdV n v → bdV m c → bdV (n + m) (vless k v c) := by
  revert g
  refine dt_ind (C := fun k => ∀ {v c : Vl}, has k v → has k c → bdV n v → bdV m c → bdV (n + m) (vless k v c)) ?_ ?_ ?_ ?_ ?_ k
  · intro v c hv hc _ _; trivial
  · intro v c hv hc h1 h2; exact bd_plus (k := .num) rfl h3 h4 hv (times_has (k := .num) rfl hc) h1 (bd_neg h2)
  · intro k hk v c hv hc h1 h2; exact bd_plus (k := .bag k) hk h3 h4 hv (times_has (k := .bag k) hk hc) h1 (bd_neg h2)
  · intro k l _ _ ihk ihl v c hv hc h1 h2
    obtain ⟨a1, a2, rfl, p1, p2⟩ := has_pair hv; obtain ⟨b1, b2, rfl, p3, p4⟩ := has_pair hc
    exact ⟨ihk p1 p3 h1.1 h2.1, ihl p2 p4 h1.2 h2.2⟩
  · intro k l _ _ ihk ihl v c hv hc h1 h2
    rcases has_either hv with ⟨b, rfl, h'⟩ | ⟨b, rfl, h'⟩ <;> rcases has_either hc with ⟨a, rfl, h⟩ | ⟨a, rfl, h⟩ <;> simp only [vless, bdV]
    · exact ihk h' h h1 h2
    · exact bdV_mono (v := b) (by omega) h1
    · exact bdV_mono (v := b) (by omega) h1
    · exact ihl h' h h1 h2
theorem bd_join {k : Kd} (g : k.dt = true) {n m : Nat} (h3 : 3 ≤ n) (h4 : 3 ≤ m) : ∀ {v c : Vl}, has (dK k) v → has (dK k) c → bdV n v → bdV m c → bdV (n + m) (vjoin k v c) := by
  revert g
  refine dt_ind (C := fun k => ∀ {v c : Vl}, has (dK k) v → has (dK k) c → bdV n v → bdV m c → bdV (n + m) (vjoin k v c)) ?_ ?_ ?_ ?_ ?_ k
  · intro v c hv hc _ _; trivial
  · intro v c hv hc h1 h2; exact bd_plus (k := .num) rfl h3 h4 hv hc h1 h2
  · intro k hk v c hv hc h1 h2; exact bd_plus (k := .bag k) hk h3 h4 hv hc h1 h2
  · intro k l _ _ ihk ihl v c hv hc h1 h2
    obtain ⟨a1, a2, rfl, p1, p2⟩ := has_pair hv; obtain ⟨b1, b2, rfl, p3, p4⟩ := has_pair hc
    exact ⟨ihk p1 p3 h1.1 h2.1, ihl p2 p4 h1.2 h2.2⟩
  · intro k l gk gl ihk ihl v c hv hc h1 h2
    have gE : (Kd.either k l).dt = true := by simp [Kd.dt, gk, gl]
    rcases has_dE hc with ⟨a, rfl, h⟩ | ⟨a, rfl, h⟩ | ⟨w, rfl, h⟩
    · rcases has_dE hv with ⟨b, rfl, h'⟩ | ⟨b, rfl, h'⟩ | ⟨w, rfl, h'⟩
      · simp only [vjoin]; exact ihk h' h h1 h2
      · simp only [vjoin, vplus]; trivial
      · simp only [vjoin]; exact bd_led gE h3 h4 h' hc h1 h2
    · rcases has_dE hv with ⟨b, rfl, h'⟩ | ⟨b, rfl, h'⟩ | ⟨w, rfl, h'⟩
      · simp only [vjoin, vplus]; trivial
      · simp only [vjoin]; exact ihl h' h h1 h2
      · simp only [vjoin]; exact bd_led gE h3 h4 h' hc h1 h2
    · have e1 : vjoin (.either k l) v (.right w) = .right w := by cases v <;> simp only [vjoin]
      rw [e1]; exact bdV_mono (v := w) (by omega) h2
theorem shw_encP : ∀ {k : Kd} {p : Pv} {n : Nat}, hasP k p = true → k.dp ≤ n → bdP 1900 p → shw n (encP p) = true := by
  intro k
  induction k with
  | unit => intro p n h hn hb; cases p <;> simp [hasP] at h; obtain ⟨n, rfl, _⟩ := succ_of hn; simp [encP, shw, shws]
  | num => intro p n h hn hb; cases p <;> simp [hasP] at h; simp only [bdP, mI] at hb; simp only [encP]; cases n <;> simp [shw] <;> omega
  | bag k _ => intro p n h; cases p <;> simp [hasP] at h
  | fn k l _ _ => intro p n h; cases p <;> simp [hasP] at h
  | pair k l ihk ihl =>
    intro p n h hn hb
    cases p <;> simp [hasP] at h
    have d1 := dp_pos k
    obtain ⟨n, rfl, hn⟩ := succ_of hn
    have e1 := ihk (n := n) h.1 (by omega) hb.1
    have e2 := ihl (n := n) h.2 (by omega) hb.2
    obtain ⟨n, rfl⟩ : ∃ m, n = m + 1 := ⟨n - 1, by omega⟩
    simp [encP, shw, shws, e1, e2]
  | either k l ihk ihl =>
    intro p n h hn hb
    have d1 := dp_pos k
    obtain ⟨n, rfl, hn⟩ := succ_of hn
    obtain ⟨n, rfl⟩ : ∃ m, n = m + 1 := ⟨n - 1, by omega⟩
    cases p <;> simp [hasP] at h
    · have e1 := ihk (n := n + 1) h (by omega) hb
      simp [encP, shw, shws, e1]
    · have e1 := ihl (n := n + 1) h (by omega) hb
      simp [encP, shw, shws, e1]
theorem shws_all {n : Nat} : ∀ {l : List D}, (∀ d ∈ l, shw n d = true) → shws n l = true
  | [], _ => by simp [shws]
  | d :: r, h => by simp only [shws, h d List.mem_cons_self, shws_all fun x hx => h x (List.mem_cons_of_mem _ hx), Bool.and_self]
theorem shw_encV : ∀ {k : Kd} {v : Vl} {n : Nat}, has k v → k.dp + 1 ≤ n → bdV 1900 v → shw n (encV v) = true := by
  intro k
  induction k with
  | unit => intro v n h hn hb; rw [has_unit h]; obtain ⟨n, rfl, _⟩ := succ_of hn; simp [encV, shw, shws]
  | num => intro v n h hn hb; obtain ⟨i, rfl⟩ := has_num h; simp only [bdV, mI] at hb; simp only [encV]; cases n <;> simp [shw] <;> omega
  | fn k l _ _ => intro v n h; cases v <;> simp only [has] at h
  | bag k _ =>
    intro v n h hn hb
    obtain ⟨l, rfl, b⟩ := has_bag h
    simp only [Kd.dp] at hn
    obtain ⟨n1, rfl, hn1⟩ := succ_of hn
    obtain ⟨n, rfl, hn2⟩ := succ_of hn1
    have d1 := dp_pos k
    simp only [encV, shw]
    refine shws_all fun d hd => ?_
    obtain ⟨p, hp, rfl⟩ := List.mem_map.mp hd
    have e1 := shw_encP (n := n) (b.ty p hp) hn2 (hb p hp).1
    have e2 := (hb p hp).2
    unfold mI at e2
    simp only [encE, shw, shws, e1, Bool.true_and, Bool.and_true]
    cases n <;> simp [shw] <;> omega
  | pair k l ihk ihl =>
    intro v n h hn hb
    obtain ⟨a, b, rfl, h1, h2⟩ := has_pair h
    have d1 := dp_pos k
    simp only [Kd.dp] at hn
    obtain ⟨n, rfl, hn⟩ := succ_of hn
    have e1 := ihk (n := n) h1 (by omega) hb.1
    have e2 := ihl (n := n) h2 (by omega) hb.2
    obtain ⟨n, rfl⟩ : ∃ m, n = m + 1 := ⟨n - 1, by omega⟩
    simp [encV, shw, shws, e1, e2]
  | either k l ihk ihl =>
    intro v n h hn hb
    have d1 := dp_pos k
    simp only [Kd.dp] at hn
    obtain ⟨n, rfl, hn⟩ := succ_of hn
    obtain ⟨n, rfl⟩ : ∃ m, n = m + 1 := ⟨n - 1, by omega⟩
    rcases has_either h with ⟨a, rfl, h'⟩ | ⟨a, rfl, h'⟩
    · have e1 := ihk (n := n + 1) h' (by omega) hb
      simp [encV, shw, shws, e1]
    · have e1 := ihl (n := n + 1) h' (by omega) hb
      simp [encV, shw, shws, e1]
/-! ### plain data -/
theorem pl_encP : ∀ p : Pv, (encP p).pl = true
  | .unit => by simp [encP, D.pl, pls]
  | .num i => by simp [encP, D.pl]
  | .pair a b => by simp [encP, D.pl, pls, pl_encP a, pl_encP b]
  | .left a => by simp [encP, D.pl, pls, pl_encP a]
  | .right a => by simp [encP, D.pl, pls, pl_encP a]
theorem pls_all : ∀ {l : List D}, (∀ d ∈ l, d.pl = true) → pls l = true
  | [], _ => rfl
  | d :: r, h => by simp only [pls, h d List.mem_cons_self, pls_all fun x hx => h x (List.mem_cons_of_mem _ hx), Bool.and_self]
theorem pl_encV : ∀ v : Vl, (encV v).pl = true
  | .unit => by simp [encV, D.pl, pls]
  | .num i => by simp [encV, D.pl]
  | .pair a b => by simp [encV, D.pl, pls, pl_encV a, pl_encV b]
  | .left a => by simp [encV, D.pl, pls, pl_encV a]
  | .right a => by simp [encV, D.pl, pls, pl_encV a]
  | .bag l => by
    simp only [encV, D.pl]
    refine pls_all fun d hd => ?_
    obtain ⟨p, hp, rfl⟩ := List.mem_map.mp hd
    simp [encE, D.pl, pls, pl_encP p.1]
theorem und_encP {m : Nat} : ∀ p : Pv, (encP p).und m = true
  | .unit => by simp [encP, D.und, unds]
  | .num i => by simp [encP, D.und]
  | .pair a b => by simp [encP, D.und, unds, und_encP a, und_encP b]
  | .left a => by simp [encP, D.und, unds, und_encP a]
  | .right a => by simp [encP, D.und, unds, und_encP a]
theorem unds_of {m : Nat} {l : List D} (h : ∀ d ∈ l, d.und m = true) : unds m l = true := by rw [unds_all, List.all_eq_true]; exact h
theorem und_encE {m : Nat} (p : Pv × Int) : (encE p).und m = true := by simp [encE, D.und, unds, und_encP p.1]
theorem und_encV {m : Nat} : ∀ v : Vl, (encV v).und m = true
  | .unit => by simp [encV, D.und, unds]
  | .num i => by simp [encV, D.und]
  | .pair a b => by simp [encV, D.und, unds, und_encV a, und_encV b]
  | .left a => by simp [encV, D.und, unds, und_encV a]
  | .right a => by simp [encV, D.und, unds, und_encV a]
  | .bag l => by
    simp only [encV, D.und]
    refine unds_of fun d hd => ?_
    obtain ⟨p, hp, rfl⟩ := List.mem_map.mp hd
    exact und_encE p
theorem und_enc (m : Nat) : ∀ k : Kd, (enc k).und m = true
  | .unit => by simp [enc, D.und, unds]
  | .num => by simp [enc, D.und, unds]
  | .bag a => by simp [enc, D.und, unds, und_enc m a]
  | .pair a b => by simp [enc, D.und, unds, und_enc m a, und_enc m b]
  | .either a b => by simp [enc, D.und, unds, und_enc m a, und_enc m b]
  | .fn a b => by simp [enc, D.und, unds, und_enc m a, und_enc m b]
end Cw

set_option Elab.async false
set_option linter.all false
set_option maxRecDepth 100000
set_option maxHeartbeats 1000000
namespace Cw
open Ev
open PySem (Str PyData)
theorem l_is_whole : P.fns.lookup ("is_whole" : Str) = some t_is_whole := by rfl
theorem d_is_whole : P.dfl ("is_whole" : Str) = [] := by rfl
theorem l_is_kinded : P.fns.lookup ("is_kinded" : Str) = some t_is_kinded := by rfl
theorem d_is_kinded : P.dfl ("is_kinded" : Str) = [(.int 100)] := by rfl
theorem l_is_plain : P.fns.lookup ("is_plain" : Str) = some t_is_plain := by rfl
theorem d_is_plain : P.dfl ("is_plain" : Str) = [] := by rfl
theorem l_is_data : P.fns.lookup ("is_data" : Str) = some t_is_data := by rfl
theorem d_is_data : P.dfl ("is_data" : Str) = [] := by rfl
theorem l_is_group : P.fns.lookup ("is_group" : Str) = some t_is_group := by rfl
theorem d_is_group : P.dfl ("is_group" : Str) = [] := by rfl
theorem l_is_valued : P.fns.lookup ("is_valued" : Str) = some t_is_valued := by rfl
theorem d_is_valued : P.dfl ("is_valued" : Str) = [] := by rfl
theorem l_is_counted : P.fns.lookup ("is_counted" : Str) = some t_is_counted := by rfl
theorem d_is_counted : P.dfl ("is_counted" : Str) = [] := by rfl
theorem l_are_counted : P.fns.lookup ("are_counted" : Str) = some t_are_counted := by rfl
theorem d_are_counted : P.dfl ("are_counted" : Str) = [] := by rfl
theorem l_check_kind_that : P.fns.lookup ("check_kind_that" : Str) = some t_check_kind_that := by rfl
theorem d_check_kind_that : P.dfl ("check_kind_that" : Str) = [] := by rfl
theorem l_check_data : P.fns.lookup ("check_data" : Str) = some t_check_data := by rfl
theorem d_check_data : P.dfl ("check_data" : Str) = [] := by rfl
theorem l_check_value : P.fns.lookup ("check_value" : Str) = some t_check_value := by rfl
theorem d_check_value : P.dfl ("check_value" : Str) = [] := by rfl
theorem l_check_whole : P.fns.lookup ("check_whole" : Str) = some t_check_whole := by rfl
theorem d_check_whole : P.dfl ("check_whole" : Str) = [] := by rfl
theorem l_check_pairs : P.fns.lookup ("check_pairs" : Str) = some t_check_pairs := by rfl
theorem d_check_pairs : P.dfl ("check_pairs" : Str) = [] := by rfl
theorem l_zero_by : P.fns.lookup ("zero_by" : Str) = some t_zero_by := by rfl
theorem d_zero_by : P.dfl ("zero_by" : Str) = [] := by rfl
theorem l_is_paired : P.fns.lookup ("is_paired" : Str) = some t_is_paired := by rfl
theorem d_is_paired : P.dfl ("is_paired" : Str) = [] := by rfl
theorem l_bag_by : P.fns.lookup ("bag_by" : Str) = some t_bag_by := by rfl
theorem d_bag_by : P.dfl ("bag_by" : Str) = [] := by rfl
theorem l_sum_of_bags : P.fns.lookup ("sum_of_bags" : Str) = some t_sum_of_bags := by rfl
theorem d_sum_of_bags : P.dfl ("sum_of_bags" : Str) = [] := by rfl
theorem l_plus_by : P.fns.lookup ("plus_by" : Str) = some t_plus_by := by rfl
theorem d_plus_by : P.dfl ("plus_by" : Str) = [] := by rfl
theorem l_times_by : P.fns.lookup ("times_by" : Str) = some t_times_by := by rfl
theorem d_times_by : P.dfl ("times_by" : Str) = [] := by rfl
theorem l_is_bag : P.fns.lookup ("is_bag" : Str) = some t_is_bag := by rfl
theorem d_is_bag : P.dfl ("is_bag" : Str) = [] := by rfl
theorem l_is_value : P.fns.lookup ("is_value" : Str) = some t_is_value := by rfl
theorem d_is_value : P.dfl ("is_value" : Str) = [] := by rfl
theorem l_order : P.fns.lookup ("order" : Str) = some t_order := by rfl
theorem d_order : P.dfl ("order" : Str) = [] := by rfl
theorem l_zero_of : P.fns.lookup ("zero_of" : Str) = some t_zero_of := by rfl
theorem d_zero_of : P.dfl ("zero_of" : Str) = [] := by rfl
theorem l_sum_of : P.fns.lookup ("sum_of" : Str) = some t_sum_of := by rfl
theorem d_sum_of : P.dfl ("sum_of" : Str) = [] := by rfl
theorem l_opposite : P.fns.lookup ("opposite" : Str) = some t_opposite := by rfl
theorem d_opposite : P.dfl ("opposite" : Str) = [] := by rfl
theorem l_many_of : P.fns.lookup ("many_of" : Str) = some t_many_of := by rfl
theorem d_many_of : P.dfl ("many_of" : Str) = [] := by rfl
theorem l_bag_of : P.fns.lookup ("bag_of" : Str) = some t_bag_of := by rfl
theorem d_bag_of : P.dfl ("bag_of" : Str) = [] := by rfl
theorem l_count_of : P.fns.lookup ("count_of" : Str) = some t_count_of := by rfl
theorem d_count_of : P.dfl ("count_of" : Str) = [] := by rfl
theorem l_support_of : P.fns.lookup ("support_of" : Str) = some t_support_of := by rfl
theorem d_support_of : P.dfl ("support_of" : Str) = [] := by rfl
theorem l__law_well : P.fns.lookup ("_law_well" : Str) = some t__law_well := by rfl
theorem d__law_well : P.dfl ("_law_well" : Str) = [] := by rfl
theorem l__law_draw : P.fns.lookup ("_law_draw" : Str) = some t__law_draw := by rfl
theorem d__law_draw : P.dfl ("_law_draw" : Str) = [] := by rfl
theorem l__law_pick : P.fns.lookup ("_law_pick" : Str) = some t__law_pick := by rfl
theorem d__law_pick : P.dfl ("_law_pick" : Str) = [] := by rfl
theorem l__law_same : P.fns.lookup ("_law_same" : Str) = some t__law_same := by rfl
theorem d__law_same : P.dfl ("_law_same" : Str) = [] := by rfl
theorem l__law_odd : P.fns.lookup ("_law_odd" : Str) = some t__law_odd := by rfl
theorem d__law_odd : P.dfl ("_law_odd" : Str) = [] := by rfl
theorem l__law_number : P.fns.lookup ("_law_number" : Str) = some t__law_number := by rfl
theorem d__law_number : P.dfl ("_law_number" : Str) = [] := by rfl
theorem l__law_plain : P.fns.lookup ("_law_plain" : Str) = some t__law_plain := by rfl
theorem d__law_plain : P.dfl ("_law_plain" : Str) = [] := by rfl
theorem l__law_group : P.fns.lookup ("_law_group" : Str) = some t__law_group := by rfl
theorem d__law_group : P.dfl ("_law_group" : Str) = [] := by rfl
theorem l__law_data : P.fns.lookup ("_law_data" : Str) = some t__law_data := by rfl
theorem d__law_data : P.dfl ("_law_data" : Str) = [] := by rfl
theorem l__law_is_whole : P.fns.lookup ("_law_is_whole" : Str) = some t__law_is_whole := by rfl
theorem d__law_is_whole : P.dfl ("_law_is_whole" : Str) = [] := by rfl
theorem l__law_is_headed : P.fns.lookup ("_law_is_headed" : Str) = some t__law_is_headed := by rfl
theorem d__law_is_headed : P.dfl ("_law_is_headed" : Str) = [] := by rfl
theorem l__law_order : P.fns.lookup ("_law_order" : Str) = some t__law_order := by rfl
theorem d__law_order : P.dfl ("_law_order" : Str) = [] := by rfl
theorem l__law_bag : P.fns.lookup ("_law_bag" : Str) = some t__law_bag := by rfl
theorem d__law_bag : P.dfl ("_law_bag" : Str) = [] := by rfl
theorem l__law_value : P.fns.lookup ("_law_value" : Str) = some t__law_value := by rfl
theorem d__law_value : P.dfl ("_law_value" : Str) = [] := by rfl
theorem l__law_is_value : P.fns.lookup ("_law_is_value" : Str) = some t__law_is_value := by rfl
theorem d__law_is_value : P.dfl ("_law_is_value" : Str) = [] := by rfl
theorem l__law_is_bag : P.fns.lookup ("_law_is_bag" : Str) = some t__law_is_bag := by rfl
theorem d__law_is_bag : P.dfl ("_law_is_bag" : Str) = [] := by rfl
theorem l__law_zero : P.fns.lookup ("_law_zero" : Str) = some t__law_zero := by rfl
theorem d__law_zero : P.dfl ("_law_zero" : Str) = [] := by rfl
theorem l__law_sum : P.fns.lookup ("_law_sum" : Str) = some t__law_sum := by rfl
theorem d__law_sum : P.dfl ("_law_sum" : Str) = [] := by rfl
theorem l__law_many : P.fns.lookup ("_law_many" : Str) = some t__law_many := by rfl
theorem d__law_many : P.dfl ("_law_many" : Str) = [] := by rfl
theorem l__law_bent : P.fns.lookup ("_law_bent" : Str) = some t__law_bent := by rfl
theorem d__law_bent : P.dfl ("_law_bent" : Str) = [] := by rfl
theorem l__law_spoilt : P.fns.lookup ("_law_spoilt" : Str) = some t__law_spoilt := by rfl
theorem d__law_spoilt : P.dfl ("_law_spoilt" : Str) = [] := by rfl
theorem l__law_are_values : P.fns.lookup ("_law_are_values" : Str) = some t__law_are_values := by rfl
theorem d__law_are_values : P.dfl ("_law_are_values" : Str) = [] := by rfl
theorem l__law_are_ordered : P.fns.lookup ("_law_are_ordered" : Str) = some t__law_are_ordered := by rfl
theorem d__law_are_ordered : P.dfl ("_law_are_ordered" : Str) = [] := by rfl
theorem l__law_are_sums : P.fns.lookup ("_law_are_sums" : Str) = some t__law_are_sums := by rfl
theorem d__law_are_sums : P.dfl ("_law_are_sums" : Str) = [] := by rfl
theorem l__law_are_bags : P.fns.lookup ("_law_are_bags" : Str) = some t__law_are_bags := by rfl
theorem d__law_are_bags : P.dfl ("_law_are_bags" : Str) = [] := by rfl
theorem l__law_right : P.fns.lookup ("_law_right" : Str) = some t__law_right := by rfl
theorem d__law_right : P.dfl ("_law_right" : Str) = [] := by rfl
theorem l_law : P.fns.lookup ("law" : Str) = some t_law := by rfl
theorem d_law : P.dfl ("law" : Str) = [] := by rfl
theorem en_call {n : Nat} : (P.en (run P n)).call = run P n := rfl
theorem en_dfl {n : Nat} : (P.en (run P n)).dfl = P.dfl := rfl
theorem en_G {n : Nat} : (P.en (run P n)).G = P.G := rfl
end Cw

set_option Elab.async false
set_option linter.all false
set_option maxRecDepth 100000
set_option maxHeartbeats 1000000
/-! ThF: loops and comprehensions; dicts of bags. -/
namespace Ev
section
variable {σ : St'} {M : Mem} {all : List D} {g : D → St' → Mem → Res St'} {f : St' → Mem → Res Flow'}
def loopK (k : Flow') (M : Mem) (r : St' → Mem → Res Flow') : Res Flow' := match k with
  | .next σ2 => r σ2 M
  | .cnt σ2 => r σ2 M
  | .brk σ2 => .ok (.next σ2) M
  | .ret d => .ok (.ret d) M
theorem forL_nil : forL none all g f [] σ M = .ok (.next σ) M := by simp only [forL, chkW_none, if_true]
theorem forL_cons {x : D} {r : List D} : forL none all g f (x :: r) σ M = (g x σ M).bind fun σ1 M => (f σ1 M).bind fun k M => loopK k M fun σ M => forL none all g f r σ M := by
  simp only [forL, chkW_none, if_true] <;> rfl
/-- an invariant through a loop that may be left early -/
theorem forL_inv {Inv : Nat → St' → Mem → Prop} {Out : St' → Mem → Prop} {xs : List D}
    (step : ∀ i x σ M, xs[i]? = some x → Inv i σ M → ∃ σ1 M1, g x σ M = .ok σ1 M1 ∧ ∃ k M2, f σ1 M1 = .ok k M2 ∧ ((∃ σ2, k = .next σ2 ∧ Inv (i + 1) σ2 M2) ∨ ∃ σ2, k = .brk σ2 ∧ Out σ2 M2))
    (fin : ∀ σ M, Inv xs.length σ M → Out σ M) (h0 : Inv 0 σ M) : ∃ σ' M', forL none all g f xs σ M = .ok (.next σ') M' ∧ Out σ' M' := by
  have go : ∀ (n i : Nat) (σ : St') (M : Mem), xs.length - i = n → i ≤ xs.length → Inv i σ M → ∃ σ' M', forL none all g f (xs.drop i) σ M = .ok (.next σ') M' ∧ Out σ' M' := by
    intro n
    induction n with
    | zero =>
      intro i σ M hn hi h
      have : i = xs.length := by omega
      subst this
      exact ⟨σ, M, by rw [List.drop_length, forL_nil], fin σ M h⟩
    | succ n ih =>
      intro i σ M hn hi h
      have hl : i < xs.length := by omega
      obtain ⟨σ1, M1, e1, k, M2, e2, q⟩ := step i xs[i] σ M (by simp [hl]) h
      rw [List.drop_eq_getElem_cons hl, forL_cons, e1]
      simp only [Res.bind_ok, e2]
      rcases q with ⟨σ2, rfl, q⟩ | ⟨σ2, rfl, q⟩
      · exact ih (i + 1) σ2 M2 (by omega) hl q
      · exact ⟨σ2, M2, rfl, q⟩
  have := go xs.length 0 σ M (by omega) (by omega) h0
  simpa using this
theorem rng1_ok {n : Int} (h : -1000000 ≤ n) (k : n ≤ 1000000) : rng1V (.int n) M = .ok (rngL 0 n.toNat, none) M := by simp [rng1V, h, k]
theorem rngL_len {lo : Int} {n : Nat} : (rngL lo n).length = n := by simp [rngL]
theorem rngL_get {lo : Int} {n i : Nat} {x : D} (h : (rngL lo n)[i]? = some x) : x = .int (lo + (i : Int)) ∧ i < n := by
  unfold rngL at h
  rw [List.getElem?_map] at h
  cases e : (List.range n)[i]? with
  | none => rw [e] at h; cases h
  | some k =>
    rw [e] at h
    have hi : i < n := by
      have := (List.getElem?_eq_some_iff.mp e).1
      simpa using this
    rw [List.getElem?_range hi] at e
    cases e; cases h
    exact ⟨rfl, hi⟩
end
end Ev
namespace Ev
section
variable {σ : St'} {M : Mem} {all : List D} {ft : D → St' → Mem → Res St'} {fp : St' → Mem → Res Bool} {fe : St' → Mem → Res D}
/-- a comprehension with a test, the memory as it was -/
theorem compL_fm {β : Type} {h φ : β → D} {ψ : β → Bool} : ∀ {l : List β} {acc : List D}, (∀ b ∈ l, ∃ σ', ft (h b) σ M = .ok σ' M ∧ fp σ' M = .ok (ψ b) M ∧ fe σ' M = .ok (φ b) M) → acc.length + l.length ≤ LIM →
    compL none all ft fp fe σ (l.map h) acc M = .ok (acc ++ (l.filter ψ).map φ) M
  | [], acc, _, _ => by simp
  | b :: l, acc, hs, hl => by
    obtain ⟨σ', h1, h2, h3⟩ := hs b List.mem_cons_self
    simp only [List.length_cons] at hl
    rw [List.map_cons, compL_cons, h1]
    simp only [Res.bind_ok, h2]
    cases e : ψ b with
    | true =>
      dsimp only
      rw [h3]
      simp only [Res.bind_ok]
      rw [if_pos (by omega), compL_fm (fun x hx => hs x (List.mem_cons_of_mem _ hx)) (by simp; omega), List.filter_cons_of_pos (by simpa using e)]
      simp
    | false =>
      dsimp only
      rw [compL_fm (fun x hx => hs x (List.mem_cons_of_mem _ hx)) (by omega), List.filter_cons_of_neg (by simp [e])]
theorem compL_mapB {β : Type} {h φ : β → D} {l : List β} {acc : List D} (hs : ∀ b ∈ l, ∃ σ', ft (h b) σ M = .ok σ' M ∧ fp σ' M = .ok true M ∧ fe σ' M = .ok (φ b) M) (hl : acc.length + l.length ≤ LIM) :
    compL none all ft fp fe σ (l.map h) acc M = .ok (acc ++ l.map φ) M := by
  rw [compL_fm (ψ := fun _ => true) hs hl, List.filter_eq_self.mpr fun _ _ => rfl]
end
end Ev
namespace Cw
open Ev
open PySem (Str PyData)
def encKV (l : Bg) : List (D × D) := l.map fun p => (encP p.1, .int p.2)
theorem pairs_enc : ∀ l : Bg, pairsD (l.map encE) = some (encKV l)
  | [] => rfl
  | p :: r => by simp only [List.map_cons, encE, pairsD, pairs_enc r, Option.map_some, encKV]
theorem nk_iff {a b : Pv} : (encP a).nk = (encP b).nk ↔ a = b := ⟨nk_inj, fun h => by rw [h]⟩
theorem kget_enc {x : Pv} : ∀ l : Bg, kget (encKV l) (encP x) = (dget l x).map D.int
  | [] => rfl
  | p :: r => by
    have ih := kget_enc (x := x) r
    unfold kget encKV at ih ⊢
    rw [List.map_cons]
    by_cases e : p.1 = x
    · rw [List.find?_cons_of_pos (by simp [e])]
      simp [dget, e]
    · rw [List.find?_cons_of_neg (by simpa [nk_iff] using e), ih]
      simp [dget, e]
theorem kset_enc {x : Pv} {v : Int} {l : Bg} : kset (encKV l) (encP x) (.int v) = encKV (dset l x v) := by
  have e1 : (encKV l).any (fun p => decide (p.1.nk = (encP x).nk)) = l.any (fun p => decide (p.1 = x)) := by
    unfold encKV
    rw [List.any_map]
    congr 1
    funext p
    simp [nk_iff]
  unfold kset dset
  rw [e1]
  split
  · unfold encKV
    rw [List.map_map, List.map_map]
    refine List.map_congr_left fun p _ => ?_
    simp only [Function.comp, nk_iff]
    split <;> rfl
  · simp [encKV]
theorem kOk_enc {k : Kd} {l : Bg} {x : Pv} (ty : typed k l) (hx : hasP k x = true) (hk : k.dp ≤ 8) : kOk (encKV l) (encP x) = true := by
  have h1 := key_has hx hk
  have h2 : ∀ p ∈ l, _ := fun p hp => key_has (ty p hp) hk
  unfold kOk
  by_cases e : k = .num
  · rw [if_pos e] at h1
    have : (encKV l).all (fun p => p.1.leaf) = true := by
      rw [List.all_eq_true]
      intro p hp
      obtain ⟨q, hq, rfl⟩ := List.mem_map.mp hp
      have := h2 q hq
      rw [if_pos e] at this
      exact this
    rw [h1, this]; rfl
  · rw [if_neg e] at h1
    have : (encKV l).all (fun p => p.1.tk) = true := by
      rw [List.all_eq_true]
      intro p hp
      obtain ⟨q, hq, rfl⟩ := List.mem_map.mp hp
      have := h2 q hq
      rw [if_neg e] at this
      exact this
    rw [h1, this]; simp
theorem pairsOk_enc {k : Kd} {l : Bg} (ty : typed k l) (hk : k.dp ≤ 8) (hl : l.length ≤ LIM) : pairsOk (encKV l) = true := by
  have h2 : ∀ p ∈ l, _ := fun p hp => key_has (ty p hp) hk
  unfold pairsOk
  have e0 : decide ((encKV l).length ≤ LIM) = true := by simp only [encKV, List.length_map, hl, decide_true]
  rw [e0, Bool.true_and]
  by_cases e : k = .num
  · have : (encKV l).all (fun p => p.1.leaf) = true := by
      rw [List.all_eq_true]
      intro p hp
      obtain ⟨q, hq, rfl⟩ := List.mem_map.mp hp
      have := h2 q hq
      rw [if_pos e] at this
      exact this
    rw [this]; rfl
  · have : (encKV l).all (fun p => p.1.tk) = true := by
      rw [List.all_eq_true]
      intro p hp
      obtain ⟨q, hq, rfl⟩ := List.mem_map.mp hp
      have := h2 q hq
      rw [if_neg e] at this
      exact this
    rw [this]; simp
theorem dictF_enc : ∀ {l acc : Bg}, (keys (acc ++ l)).Nodup → dictF (encKV acc) (encKV l) = encKV (acc ++ l)
  | [], acc, _ => by simp [dictF, encKV]
  | p :: r, acc, nd => by
    have no : p.1 ∉ keys acc := by
      intro h
      unfold keys at nd h
      rw [List.map_append, List.nodup_append] at nd
      exact nd.2.2 _ h _ (by simp) rfl
    show dictF (kset (encKV acc) (encP p.1) (.int p.2)) (encKV r) = _
    rw [kset_enc, dset_not no, dictF_enc (by simpa using nd)]
    simp
theorem unde_enc {m : Nat} (l : Bg) : unde m (encKV l) = true := by
  rw [unde_all, List.all_eq_true]
  intro p hp
  obtain ⟨q, hq, rfl⟩ := List.mem_map.mp hp
  simp [und_encP q.1, D.und]
theorem sorted_enc {k : Kd} {l : Bg} {L : Nat} {M : Mem} {call : D → List D → Mem → Res D} (ty : typed k l) (hk : k.dp ≤ 60) (hl : l.length ≤ LIM) (hM : M[L]? = some (.dct (encKV l))) (nd : (keys l).Nodup) : bltD call .sorted [.obj L] M = .ok (.lst ((srt (keys l)).map encP)) M := by
  have t2 : ∀ x ∈ keys l, hasP k x = true := fun x hx => by obtain ⟨p, hp, rfl⟩ := mem_keys.mp hx; exact ty p hp
  have e1 : keysOf M (.obj L) = some ((keys l).map encP) := by
    simp only [keysOf, dctOf, hM, encKV, keys, List.map_map] <;> rfl
  have e2 : sortOk ((keys l).map encP) = true := by
    have tp : ∀ {k : Kd} {x : Pv}, hasP k x = true → (k = .num → isT (pyP x) = false) ∧ (k = .unit → x = .unit) ∧ (k ≠ .num → k ≠ .unit → isTup1 (pyP x) = true) := fun {k x} h => by
      cases k <;> cases x <;> simp [hasP] at h <;> refine ⟨fun e => ?_, fun e => ?_, fun e1 e2 => ?_⟩ <;> first | rfl | (cases e; done) | exact absurd rfl e1 | exact absurd rfl e2
    unfold sortOk
    simp only [Bool.and_eq_true, decide_eq_true_eq, List.all_eq_true, Bool.or_eq_true, List.length_map, List.mem_map, Bool.not_eq_true']
    refine ⟨⟨⟨by simpa [keys] using hl, ?_⟩, ?_⟩, ?_⟩
    · rintro d ⟨x, hx, rfl⟩
      rw [encD_encP, py_encP]
      have := depth_has (t2 x hx)
      exact ⟨⟨rfl, by omega⟩, pur_pyP x⟩
    · rintro a ⟨x, hx, rfl⟩ b ⟨y, hy, rfl⟩
      rw [encD_encP, encD_encP]
      exact cm_has (t2 x hx) (t2 y hy)
    · by_cases h1 : k = .num
      · refine .inl (.inr ?_)
        rintro d ⟨x, hx, rfl⟩
        rw [encD_encP]
        exact (tp (t2 x hx)).1 h1
      · by_cases h2 : k = .unit
        · refine .inr ?_
          have all : ∀ x ∈ keys l, x = .unit := fun x hx => (tp (t2 x hx)).2.1 h2
          revert nd all
          cases keys l with
          | nil => intro _ _; simp
          | cons a r =>
            cases r with
            | nil => intro _ _; simp
            | cons b r =>
              intro nd all
              exfalso
              rw [List.nodup_cons] at nd
              exact nd.1 (by rw [all a (by simp), all b (by simp)]; simp)
        · refine .inl (.inl ?_)
          rintro d ⟨x, hx, rfl⟩
          rw [encD_encP]
          exact (tp (t2 x hx)).2.2 h1 h2
  have e3 : sortD ((keys l).map encP) = (srt (keys l)).map encP := by
    unfold sortD srt
    refine (PySem.W.sort_maps encP fun a _ b _ => ?_).symm
    show _ = !PySem.W.dataLt (encD (encP b)) (encD (encP a))
    rw [encD_encP, encD_encP]; rfl
  unfold bltD
  simp only [e1, e2, if_true, e3]
end Cw
namespace Ev
section
variable {σ : St'} {M : Mem} {all : List D} {g : D → St' → Mem → Res St'} {f : St' → Mem → Res Flow'} {w : Option Nat}
theorem forW_nil (h : chkW w all M = true) : forL w all g f [] σ M = .ok (.next σ) M := by simp only [forL, h, if_true]
theorem forW_cons {x : D} {r : List D} (h : chkW w all M = true) : forL w all g f (x :: r) σ M = (g x σ M).bind fun σ1 M => (f σ1 M).bind fun k M => loopK k M fun σ M => forL w all g f r σ M := by
  simp only [forL, h, if_true] <;> rfl
/-- a loop over a value or a cell that is never left early -/
theorem forW_inv {Inv : Nat → St' → Mem → Prop} {xs : List D} (hw : ∀ i σ M, i ≤ xs.length → Inv i σ M → chkW w all M = true)
    (step : ∀ i x σ M, xs[i]? = some x → Inv i σ M → ∃ σ1 M1, g x σ M = .ok σ1 M1 ∧ ∃ σ2 M2, f σ1 M1 = .ok (.next σ2) M2 ∧ Inv (i + 1) σ2 M2)
    (h0 : Inv 0 σ M) : ∃ σ' M', forL w all g f xs σ M = .ok (.next σ') M' ∧ Inv xs.length σ' M' := by
  have go : ∀ (n i : Nat) (σ : St') (M : Mem), xs.length - i = n → i ≤ xs.length → Inv i σ M → ∃ σ' M', forL w all g f (xs.drop i) σ M = .ok (.next σ') M' ∧ Inv xs.length σ' M' := by
    intro n
    induction n with
    | zero =>
      intro i σ M hn hi h
      have : i = xs.length := by omega
      subst this
      exact ⟨σ, M, by rw [List.drop_length, forW_nil (hw _ _ _ hi h)], h⟩
    | succ n ih =>
      intro i σ M hn hi h
      have hl : i < xs.length := by omega
      obtain ⟨σ1, M1, e1, σ2, M2, e2, q⟩ := step i xs[i] σ M (by simp [hl]) h
      rw [List.drop_eq_getElem_cons hl, forW_cons (hw _ _ _ hi h), e1]
      simp only [Res.bind_ok, e2]
      exact ih (i + 1) σ2 M2 (by omega) hl q
  have := go xs.length 0 σ M (by omega) (by omega) h0
  simpa using this
end
end Ev

set_option Elab.async false
set_option linter.all false
set_option maxRecDepth 100000
set_option maxHeartbeats 1000000
/-! PA: kinds and values of them. -/
namespace Cw
open Ev
open PySem (Str PyData)
theorem run_ret {f : FnD} {x : Str} {as : List D} {d : D} {n : Nat} {M M' : Mem} (h : P.fns.lookup x = some f) (hl : as.length = f.ps.length) (hm : f.mode = .drop) (e : exs (P.en (run P n)) f.body (start' f.N as) M = .ok (.ret d) M') (hu : d.und M.length = true) :
    run P (n + 1) (.fn x) as M = .ok d (M'.take M.length) := by
  rw [run_step h hl, e, hm]
  simp [leave, hu]
theorem run_pure {f : FnD} {x : Str} {as : List D} {d : D} {n : Nat} {M : Mem} (h : P.fns.lookup x = some f) (hl : as.length = f.ps.length) (hm : f.mode = .drop) (e : exs (P.en (run P n)) f.body (start' f.N as) M = .ok (.ret d) M) (hu : d.und M.length = true) :
    run P (n + 1) (.fn x) as M = .ok d M := by
  rw [run_ret h hl hm e hu]; simp
theorem und_bl {m : Nat} {b : Bool} : (D.bl b).und m = true := rfl
theorem run_is_plain (k : Kd) : ∀ n M, k.dp ≤ n → run P n (.fn "is_plain") [enc k] M = .ok (.bl k.pl) M := by
  induction k with
  | unit => intro n M h; obtain ⟨n, rfl, h⟩ := succ_of h; refine run_pure l_is_plain rfl rfl ?_ und_bl; simp [t_is_plain, start', wipe', LIM, enc, isIn, Kd.pl]
  | num => intro n M h; obtain ⟨n, rfl, h⟩ := succ_of h; refine run_pure l_is_plain rfl rfl ?_ und_bl; simp [t_is_plain, start', wipe', LIM, enc, isIn, Kd.pl]
  | pair a b iha ihb =>
    intro n M h; obtain ⟨n, rfl, h⟩ := succ_of h
    have h2 := fun M => iha n M (by omega)
    have h3 := fun M => ihb n M (by omega)
    refine run_pure l_is_plain rfl rfl ?_ und_bl
    simp [t_is_plain, start', wipe', LIM, enc, isIn, Kd.pl, h2, h3, compL_cons, en_call, en_dfl, d_is_plain, arrange, pick]
  | either a b iha ihb =>
    intro n M h; obtain ⟨n, rfl, h⟩ := succ_of h
    have h2 := fun M => iha n M (by omega)
    have h3 := fun M => ihb n M (by omega)
    refine run_pure l_is_plain rfl rfl ?_ und_bl
    simp [t_is_plain, start', wipe', LIM, enc, isIn, Kd.pl, h2, h3, compL_cons, en_call, en_dfl, d_is_plain, arrange, pick]
  | bag a _ =>
    intro n M h; obtain ⟨n, rfl, h⟩ := succ_of h; refine run_pure l_is_plain rfl rfl ?_ und_bl
    simp [t_is_plain, start', wipe', enc, LIM, isIn, Kd.pl]
  | fn a b _ _ =>
    intro n M h; obtain ⟨n, rfl, h⟩ := succ_of h; refine run_pure l_is_plain rfl rfl ?_ und_bl
    simp [t_is_plain, start', wipe', enc, LIM, isIn, Kd.pl]
theorem run_is_data (k : Kd) : ∀ n M, k.dp ≤ n → k.dt = true → run P n (.fn "is_data") [enc k] M = .ok (.bl true) M := by
  induction k with
  | unit => intro n M h _; obtain ⟨n, rfl, h⟩ := succ_of h; refine run_pure l_is_data rfl rfl ?_ und_bl; simp [t_is_data, start', wipe', LIM, enc, cmp_ne]
  | num => intro n M h _; obtain ⟨n, rfl, h⟩ := succ_of h; refine run_pure l_is_data rfl rfl ?_ und_bl; simp [t_is_data, start', wipe', LIM, enc, cmp_ne]
  | pair a b iha ihb =>
    intro n M h g; obtain ⟨n, rfl, h⟩ := succ_of h
    simp only [Kd.dt, Bool.and_eq_true] at g
    have h2 := fun M => iha n M (by omega) g.1
    have h3 := fun M => ihb n M (by omega) g.2
    refine run_pure l_is_data rfl rfl ?_ und_bl
    simp [t_is_data, start', wipe', LIM, enc, cmp_ne, h2, h3, compL_cons, en_call, en_dfl, d_is_data, arrange, pick]
  | either a b iha ihb =>
    intro n M h g; obtain ⟨n, rfl, h⟩ := succ_of h
    simp only [Kd.dt, Bool.and_eq_true] at g
    have h2 := fun M => iha n M (by omega) g.1
    have h3 := fun M => ihb n M (by omega) g.2
    refine run_pure l_is_data rfl rfl ?_ und_bl
    simp [t_is_data, start', wipe', LIM, enc, cmp_ne, h2, h3, compL_cons, en_call, en_dfl, d_is_data, arrange, pick]
  | bag a iha =>
    intro n M h g; obtain ⟨n, rfl, h⟩ := succ_of h
    have h2 := fun M => iha n M (by omega) (pl_dt g)
    refine run_pure l_is_data rfl rfl ?_ und_bl
    simp [t_is_data, start', wipe', LIM, enc, cmp_ne, h2, compL_cons, en_call, en_dfl, d_is_data, arrange, pick]
  | fn a b _ _ => intro n M h g; simp [Kd.dt] at g
def KS : D := .dct [(.str "unit", .int 1), (.str "num", .int 1), (.str "pair", .int 3), (.str "either", .int 3), (.str "bag", .int 2), (.str "fun", .int 3)]
theorem G_KS : P.G ("KIND_SIZES" : Str) = some KS := by rfl
theorem kget_nil {k : D} : kget [] k = none := rfl
theorem kget_cons {k a b : D} {l : List (D × D)} : kget ((a, b) :: l) k = if a.nk = k.nk then some b else kget l k := by
  unfold kget
  by_cases h : a.nk = k.nk
  · rw [List.find?_cons_of_pos (by simpa using h), if_pos h]; rfl
  · rw [List.find?_cons_of_neg (by simpa using h), if_neg h]
theorem rec_KS {M : Mem} : recD .get M KS = true := rfl
theorem get_dct {l : List (D × D)} {x d : D} {M : Mem} (h : kOk l x = true) : metD .get (.dct l) [x, d] M = .ok ((kget l x).getD d) M := by
  simp only [metD, dctOf, h, if_true]
theorem get_KS {w : Str} {M : Mem} : metD .get KS [.str w, .int 0] M = .ok (if ("unit" : Str) = w then .int 1 else if ("num" : Str) = w then .int 1 else if ("pair" : Str) = w then .int 3 else if ("either" : Str) = w then .int 3 else if ("bag" : Str) = w then .int 2 else if ("fun" : Str) = w then .int 3 else .int 0) M := by
  unfold KS
  rw [get_dct rfl]
  simp only [kget_cons, kget_nil, D.nk, PySem.NestedKey.text.injEq]
  congr 1
  repeat' split
  all_goals rfl
def LR : D := .dct [(.str "left", .int 1), (.str "right", .int 2)]
theorem get_left {M : Mem} : metD .get LR [.str "left", .int 0] M = .ok (.int 1) M := by
  unfold LR
  rw [get_dct rfl]
  simp [kget_cons, D.nk]
theorem get_right {M : Mem} : metD .get LR [.str "right", .int 0] M = .ok (.int 2) M := by
  unfold LR
  rw [get_dct rfl]
  simp [kget_cons, kget_nil, D.nk]
theorem rec_LR {M : Mem} : recD .get M LR = true := rfl
theorem LR_eq : D.dct [(.str "left", .int 1), (.str "right", .int 2)] = LR := rfl
theorem isi_tup {M : Mem} {call : D → List D → Mem → Res D} {l : List D} : bltD call .isi [.tup l, .ty "tuple"] M = .ok (.bl true) M := isi_of (by simp [isiD, tyOf])
theorem isi_str {M : Mem} {call : D → List D → Mem → Res D} {s : Str} : bltD call .isi [.str s, .ty "str"] M = .ok (.bl true) M := isi_of (by simp [isiD, tyOf])
theorem isi_int {M : Mem} {call : D → List D → Mem → Res D} {i : Int} : bltD call .isi [.int i, .ty "int"] M = .ok (.bl true) M := isi_of (by simp [isiD, tyOf])
theorem isi_tupi {M : Mem} {call : D → List D → Mem → Res D} {l : List D} : bltD call .isi [.tup l, .ty "int"] M = .ok (.bl false) M := isi_of (by simp [isiD, tyOf])
theorem isi_intb {M : Mem} {call : D → List D → Mem → Res D} {i : Int} : bltD call .isi [.int i, .ty "bool"] M = .ok (.bl false) M := isi_of (by simp [isiD, tyOf])
theorem isi_intt {M : Mem} {call : D → List D → Mem → Res D} {i : Int} : bltD call .isi [.int i, .ty "tuple"] M = .ok (.bl false) M := isi_of (by simp [isiD, tyOf])
theorem isi_tups {M : Mem} {call : D → List D → Mem → Res D} {l : List D} : bltD call .isi [.tup l, .ty "str"] M = .ok (.bl false) M := isi_of (by simp [isiD, tyOf])
theorem run_is_kinded (k : Kd) : ∀ (n m : Nat) (M : Mem), k.wf = true → k.dp ≤ m → k.dp + 1 ≤ n → run P n (.fn "is_kinded") [enc k, .int m] M = .ok (.bl true) M := by
  have cs : ∀ m : Nat, ((m + 1 : Nat) : Int) - 1 = (m : Int) := fun m => by omega
  have nz : ∀ m : Nat, ¬ ((m : Int) + 1 = 0) := fun m => by omega
  induction k with
  | unit =>
    intro n m M _ hm h; obtain ⟨n, rfl, h⟩ := succ_of h; obtain ⟨m, rfl, _⟩ := succ_of hm; refine run_pure l_is_kinded rfl rfl ?_ und_bl
    simp [t_is_kinded, start', wipe', LIM, enc, cmp_ne, nz, isi_tup, isi_str, en_G, G_KS, rec_KS, get_KS]
  | num =>
    intro n m M _ hm h; obtain ⟨n, rfl, h⟩ := succ_of h; obtain ⟨m, rfl, _⟩ := succ_of hm; refine run_pure l_is_kinded rfl rfl ?_ und_bl
    simp [t_is_kinded, start', wipe', LIM, enc, cmp_ne, nz, isi_tup, isi_str, en_G, G_KS, rec_KS, get_KS]
  | pair a b iha ihb =>
    intro n m M g hm h; obtain ⟨n, rfl, h⟩ := succ_of h; obtain ⟨m, rfl, hm⟩ := succ_of hm
    simp only [Kd.wf, Bool.and_eq_true] at g
    simp only [Kd.dp] at h hm
    have h2 := fun M => iha n m M g.1 (by omega) (by omega)
    have h3 := fun M => ihb n m M g.2 (by omega) (by omega)
    refine run_pure l_is_kinded rfl rfl ?_ und_bl
    simp [t_is_kinded, start', wipe', LIM, enc, cmp_ne, nz, isi_tup, isi_str, en_G, G_KS, rec_KS, get_KS, h2, h3, compL_cons, en_call, en_dfl, d_is_kinded, arrange, pick, cs]
  | either a b iha ihb =>
    intro n m M g hm h; obtain ⟨n, rfl, h⟩ := succ_of h; obtain ⟨m, rfl, hm⟩ := succ_of hm
    simp only [Kd.wf, Bool.and_eq_true] at g
    simp only [Kd.dp] at h hm
    have h2 := fun M => iha n m M g.1 (by omega) (by omega)
    have h3 := fun M => ihb n m M g.2 (by omega) (by omega)
    refine run_pure l_is_kinded rfl rfl ?_ und_bl
    simp [t_is_kinded, start', wipe', LIM, enc, cmp_ne, nz, isi_tup, isi_str, en_G, G_KS, rec_KS, get_KS, h2, h3, compL_cons, en_call, en_dfl, d_is_kinded, arrange, pick, cs]
  | fn a b iha ihb =>
    intro n m M g hm h; obtain ⟨n, rfl, h⟩ := succ_of h; obtain ⟨m, rfl, hm⟩ := succ_of hm
    simp only [Kd.wf, Bool.and_eq_true] at g
    simp only [Kd.dp] at h hm
    have h2 := fun M => iha n m M g.1 (by omega) (by omega)
    have h3 := fun M => ihb n m M g.2 (by omega) (by omega)
    refine run_pure l_is_kinded rfl rfl ?_ und_bl
    simp [t_is_kinded, start', wipe', LIM, enc, cmp_ne, nz, isi_tup, isi_str, en_G, G_KS, rec_KS, get_KS, h2, h3, compL_cons, en_call, en_dfl, d_is_kinded, arrange, pick, cs]
  | bag a iha =>
    intro n m M g hm h; obtain ⟨n, rfl, h⟩ := succ_of h; obtain ⟨m, rfl, hm⟩ := succ_of hm
    simp only [Kd.dp] at h hm
    have h2 := fun M => iha n m M (dt_wf (pl_dt g)) (by omega) (by omega)
    have h3 := fun M => run_is_plain a n M (by omega)
    rw [show a.pl = true from g] at h3
    refine run_pure l_is_kinded rfl rfl ?_ und_bl
    simp [t_is_kinded, start', wipe', LIM, enc, cmp_ne, nz, isi_tup, isi_str, en_G, G_KS, rec_KS, get_KS, h2, h3, compL_cons, en_call, en_dfl, d_is_kinded, d_is_plain, arrange, pick, cs]
theorem run_check_that {k : Kd} {f : Str} {n : Nat} {M : Mem} (hw : k.wf = true) (hd : k.dp ≤ 100) (hn : k.dp + 2 ≤ n) (hf : ∀ n M, k.dp ≤ n → run P n (.fn f) [enc k] M = .ok (.bl true) M) : run P n (.fn "check_kind_that") [enc k, .fn f] M = .ok .non M := by
  obtain ⟨n, rfl, hn⟩ := succ_of hn
  have h1 := fun M => run_is_kinded k n 100 M hw hd (by omega)
  have h1 : ∀ M, run P n (.fn "is_kinded") [enc k, .int 100] M = .ok (.bl true) M := h1
  have h2 := fun M => hf n M (by omega)
  rw [run_step l_check_kind_that rfl]
  simp [t_check_kind_that, start', en_call, en_dfl, d_is_kinded, arrange, pick, h1, h2]
theorem run_check_data {k : Kd} {n : Nat} {M : Mem} (hk : k.dt = true) (hd : k.dp ≤ 100) (hn : k.dp + 3 ≤ n) : run P n (.fn "check_data") [enc k] M = .ok .non M := by
  obtain ⟨n, rfl, hn⟩ := succ_of hn
  have h1 := fun M => run_check_that (M := M) (n := n) (f := "is_data") (dt_wf hk) hd (by omega) fun n M h => run_is_data k n M h hk
  rw [run_step l_check_data rfl]
  simp [t_check_data, start', en_call, en_dfl, d_check_kind_that, arrange, pick, h1]
theorem run_is_whole {i : Int} {n : Nat} {M : Mem} (hn : 1 ≤ n) : run P n (.fn "is_whole") [.int i] M = .ok (.bl true) M := by
  obtain ⟨n, rfl, hn⟩ := succ_of (m := 0) hn
  refine run_pure l_is_whole rfl rfl ?_ und_bl
  simp [t_is_whole, start', isi_int, isi_intb]
/-! order of plain values -/
theorem top_encP {p : Pv} {M : Mem} : (encP p).top M = encP p := by cases p <;> rfl
theorem cmp_plt {k : Kd} {a b : Pv} {M : Mem} (ha : hasP k a = true) (hb : hasP k b = true) (hk : k.dp ≤ 60) : cmpD .Lt (encP a) (encP b) M = .ok (.bl (plt a b)) M := by
  have gen : ordD .Lt ((encP a).top M).py ((encP b).top M).py M = .ok (.bl (plt a b)) M := by
    rw [top_encP, top_encP, py_encP, py_encP]
    have h1 := depth_has ha
    have h2 := depth_has hb
    have c : cmLt .Lt (pyP a) (pyP b) = true := by
      simp only [cmLt, pur_pyP, cm_has ha hb, decide_true, Bool.and_self, Bool.true_and, decide_eq_true_eq]; omega
    simp only [ordD, c, if_true] <;> rfl
  cases a <;> cases b <;> first | exact gen | skip
  rename_i i j
  rw [show encP (.num i) = .int i from rfl, show encP (.num j) = .int j from rfl, cmp_lt]
  congr 2
  show _ = PySem.W.dataLt (.int i) (.int j)
  rw [PySem.W.dataLt_int]
theorem all_true {call : D → List D → Mem → Res D} {M : Mem} {α : Type} {l : List α} : bltD call .all [.lst (l.map fun _ => D.bl true)] M = .ok (.bl true) M := by
  have := all_of (bs := l.map fun _ => true) (call := call) (M := M)
  rw [List.map_map] at this
  have e : (l.map fun _ => true).all id = true := by simp
  rw [e] at this
  exact this
theorem zip_items {l : Bg} : ∀ x ∈ zipL (l.map encE) ((l.map encE).drop 1), ∃ i : Nat, ∃ p q, l[i]? = some p ∧ l[i + 1]? = some q ∧ x = .wtp [encE p, encE q] := by
  intro x hx
  obtain ⟨i, hi⟩ := List.mem_iff_getElem?.mp hx
  rw [zipL_get] at hi
  refine ⟨i, ?_⟩
  rw [List.getElem?_drop, List.getElem?_map, List.getElem?_map] at hi
  cases e1 : l[i]? with
  | none => rw [e1] at hi; simp at hi
  | some p =>
    cases e2 : l[1 + i]? with
    | none => rw [e1, e2] at hi; simp at hi
    | some q =>
      rw [e1, e2] at hi
      simp at hi
      exact ⟨p, q, rfl, by rw [Nat.add_comm]; exact e2, hi.symm⟩
theorem pw_next {k : Kd} {l : Bg} (h : IsBag k l) {i : Nat} {p q : Pv × Int} (h1 : l[i]? = some p) (h2 : l[i + 1]? = some q) : plt p.1 q.1 = true := by
  obtain ⟨a, ea⟩ := List.getElem?_eq_some_iff.mp h1
  obtain ⟨b, eb⟩ := List.getElem?_eq_some_iff.mp h2
  have := List.pairwise_iff_getElem.mp h.st i (i + 1) a b (Nat.lt_succ_self i)
  rw [ea, eb] at this
  exact this
end Cw

set_option Elab.async false
set_option linter.all false
set_option maxRecDepth 100000
set_option maxHeartbeats 1000000
/-! PB: is_valued; sums of bags. -/
namespace Cw
open Ev
open PySem (Str PyData)
theorem run_is_valuedP (k : Kd) : ∀ (p : Pv) (n : Nat) (M : Mem), hasP k p = true → k.dp + 2 ≤ n → run P n (.fn "is_valued") [enc k, encP p] M = .ok (.bl true) M := by
  induction k with
  | unit =>
    intro p n M h hn; obtain ⟨n, rfl, hn⟩ := succ_of hn
    cases p <;> simp [hasP] at h
    refine run_pure l_is_valued rfl rfl ?_ und_bl
    simp [t_is_valued, start', LIM, enc, encP, isi_tup]
  | num =>
    intro p n M h hn; obtain ⟨n, rfl, hn⟩ := succ_of hn
    cases p <;> simp [hasP] at h
    rename_i i
    have hw := fun M => run_is_whole (i := i) (n := n) (M := M) (by omega)
    refine run_pure l_is_valued rfl rfl ?_ und_bl
    simp [t_is_valued, start', LIM, enc, encP, en_call, en_dfl, d_is_whole, arrange, pick, hw]
  | bag k _ => intro p n M h; cases p <;> simp [hasP] at h
  | fn k l _ _ => intro p n M h; cases p <;> simp [hasP] at h
  | pair k l ihk ihl =>
    intro p n M h hn; obtain ⟨n, rfl, hn⟩ := succ_of hn
    cases p <;> simp [hasP] at h
    simp only [Kd.dp] at hn
    have h2 := fun M => ihk _ n M h.1 (by omega)
    have h3 := fun M => ihl _ n M h.2 (by omega)
    refine run_pure l_is_valued rfl rfl ?_ und_bl
    simp [t_is_valued, start', LIM, enc, encP, isi_tup, isi_str, cmp_ne, en_call, en_dfl, d_is_valued, arrange, pick, h2, h3]
  | either k l ihk ihl =>
    intro p n M h hn; obtain ⟨n, rfl, hn⟩ := succ_of hn
    simp only [Kd.dp] at hn
    cases p <;> simp [hasP] at h
    · have h2 := fun M => ihk _ n M h (by omega)
      refine run_pure l_is_valued rfl rfl ?_ und_bl
      simp [t_is_valued, start', LIM, enc, encP, isi_tup, isi_str, cmp_ne, en_call, en_dfl, d_is_valued, arrange, pick, h2, LR_eq, rec_LR, get_left]
    · have h2 := fun M => ihl _ n M h (by omega)
      refine run_pure l_is_valued rfl rfl ?_ und_bl
      simp [t_is_valued, start', LIM, enc, encP, isi_tup, isi_str, cmp_ne, en_call, en_dfl, d_is_valued, arrange, pick, h2, LR_eq, rec_LR, get_right]
theorem run_is_counted {k : Kd} {p : Pv × Int} {n : Nat} {M : Mem} (h : hasP k p.1 = true) (hn : k.dp + 3 ≤ n) : run P n (.fn "is_counted") [enc k, encE p] M = .ok (.bl true) M := by
  obtain ⟨n, rfl, hn⟩ := succ_of hn
  have h1 := fun M => run_is_valuedP k p.1 n M h (by omega)
  have h2 := fun M => run_is_whole (i := p.2) (n := n) (M := M) (by omega)
  refine run_pure l_is_counted rfl rfl ?_ und_bl
  simp [t_is_counted, start', LIM, encE, isi_tup, en_call, en_dfl, d_is_valued, d_is_whole, arrange, pick, h1, h2]
theorem run_are_counted {k : Kd} {l : Bg} {n : Nat} {M : Mem} (h : IsBag k l) (hl : l.length ≤ LIM) (hk : k.dp ≤ 60) (hn : k.dp + 4 ≤ n) : run P n (.fn "are_counted") [enc k, .tup (l.map encE)] M = .ok (.bl true) M := by
  obtain ⟨n, rfl, hn⟩ := succ_of hn
  refine run_pure l_are_counted rfl rfl ?_ und_bl
  have zv : ∀ M, zipV (.tup (l.map encE)) (.tup ((l.map encE).drop 1)) M = .ok (zipL (l.map encE) ((l.map encE).drop 1), none) M := fun M => rfl
  have N5 : start' t_are_counted.N [enc k, .tup (l.map encE)] = [some (enc k), some (.tup (l.map encE)), none, none, none] := rfl
  rw [N5]
  simp only [t_are_counted, exs_cons, ex_if, ev_not, ev_blt, evs_cons, evs_nil, ev_comp, evi_val, ev_var, Res.bind_ok, List.getElem?_cons_succ, List.getElem?_cons_zero, walk_tup, List.map_cons, List.map_nil, wipe', List.set_cons_succ, List.set_cons_zero]
  rw [compL_mapB (h := encE) (φ := fun _ => D.bl true) (l := l)]
  · simp only [List.nil_append, Res.bind_ok, fresh_f, all_true, tIte_bl, if_true, tIf_bl, Bool.false_eq_true, if_false, exs_nil, seqF_next, ex_ret, ev_blt, evs_cons, evs_nil, ev_comp, evi_zip, ev_var, ev_sli, evo_some, evo_none, ev_k, optR_some, optR_none, sli_1, zv, wipe', List.getElem?_cons_succ, List.getElem?_cons_zero, List.map_cons, List.map_nil, List.set_cons_succ, List.set_cons_zero]
    rw [compL_map (φ := fun _ => D.bl true)]
    · simp only [List.nil_append, Res.bind_ok, fresh_f, all_true] <;> rfl
    · intro x hx
      obtain ⟨i, p, q, e1, e2, rfl⟩ := zip_items x hx
      have lt := pw_next h e1 e2
      have cp := fun M => cmp_plt (M := M) (h.ty p (List.mem_of_getElem? e1)) (h.ty q (List.mem_of_getElem? e2)) hk
      have i1 : ∀ (p : Pv × Int) M, idxD (encE p) (.int 0) M = .ok (encP p.1) M := fun p M => by simp [encE]
      exact ⟨[some (enc k), some (.tup (l.map encE)), some (encE p), some (encE q), none], by simp [TL.len], by simp, by simp [i1, cp, lt]⟩
    · have : (zipL (l.map encE) ((l.map encE).drop 1)).length ≤ l.length := by rw [zipL_len]; simp
      simp only [List.length_nil, Nat.zero_add]
      exact Nat.le_trans this hl
  · intro p hp
    have ic := fun M => run_is_counted (M := M) (n := n) (h.ty p hp) (by omega)
    have nz := h.nz p hp
    have i1 : ∀ M, idxD (encE p) (.int 1) M = .ok (.int p.2) M := fun M => by simp [encE]
    exact ⟨[some (enc k), some (.tup (l.map encE)), none, none, some (encE p)], by simp, by simp, by simp [en_call, en_dfl, d_is_counted, arrange, pick, ic, i1, nz]⟩
  · simpa using hl
theorem mB_LIM {l : Bg} {b : Nat} (h : mB l ≤ b) : l.length ≤ b := by have := mB_len (a := l); omega
theorem run_is_valued (k : Kd) : ∀ (v : Vl) (n : Nat) (M : Mem), has k v → ms v ≤ LIM → k.dp ≤ 60 → k.dp + 4 ≤ n → run P n (.fn "is_valued") [enc k, encV v] M = .ok (.bl true) M := by
  induction k with
  | unit =>
    intro v n M h _ _ hn; obtain ⟨n, rfl, hn⟩ := succ_of hn
    rw [has_unit h]
    refine run_pure l_is_valued rfl rfl ?_ und_bl
    simp [t_is_valued, start', LIM, enc, encV, isi_tup]
  | num =>
    intro v n M h _ _ hn; obtain ⟨n, rfl, hn⟩ := succ_of hn
    obtain ⟨i, rfl⟩ := has_num h
    have hw := fun M => run_is_whole (i := i) (n := n) (M := M) (by omega)
    refine run_pure l_is_valued rfl rfl ?_ und_bl
    simp [t_is_valued, start', LIM, enc, encV, en_call, en_dfl, d_is_whole, arrange, pick, hw]
  | fn k l _ _ => intro v n M h; cases v <;> simp only [has] at h
  | bag k _ =>
    intro v n M h hm hk hn; obtain ⟨n, rfl, hn⟩ := succ_of hn
    obtain ⟨l, rfl, b⟩ := has_bag h
    simp only [Kd.dp] at hn hk
    simp only [ms] at hm
    have hc := fun M => run_are_counted (M := M) (n := n) b (mB_LIM (b := LIM) (by omega)) (by omega) (by omega)
    refine run_pure l_is_valued rfl rfl ?_ und_bl
    simp [t_is_valued, start', LIM, enc, encV, isi_tup, en_call, en_dfl, d_are_counted, arrange, pick, hc]
  | pair k l ihk ihl =>
    intro v n M h hm hk hn; obtain ⟨n, rfl, hn⟩ := succ_of hn
    obtain ⟨a, b, rfl, h1, h2⟩ := has_pair h
    simp only [Kd.dp] at hn hk
    simp only [ms] at hm
    have h2 := fun M => ihk _ n M h1 (by omega) (by omega) (by omega)
    have h3 := fun M => ihl _ n M (by assumption) (by omega) (by omega) (by omega)
    refine run_pure l_is_valued rfl rfl ?_ und_bl
    simp [t_is_valued, start', LIM, enc, encV, isi_tup, isi_str, cmp_ne, en_call, en_dfl, d_is_valued, arrange, pick, h2, h3]
  | either k l ihk ihl =>
    intro v n M h hm hk hn; obtain ⟨n, rfl, hn⟩ := succ_of hn
    simp only [Kd.dp] at hn hk
    rcases has_either h with ⟨a, rfl, h1⟩ | ⟨a, rfl, h1⟩ <;> simp only [ms] at hm
    · have h2 := fun M => ihk _ n M h1 (by omega) (by omega) (by omega)
      refine run_pure l_is_valued rfl rfl ?_ und_bl
      simp [t_is_valued, start', LIM, enc, encV, isi_tup, isi_str, cmp_ne, en_call, en_dfl, d_is_valued, arrange, pick, h2, LR_eq, rec_LR, get_left]
    · have h2 := fun M => ihl _ n M h1 (by omega) (by omega) (by omega)
      refine run_pure l_is_valued rfl rfl ?_ und_bl
      simp [t_is_valued, start', LIM, enc, encV, isi_tup, isi_str, cmp_ne, en_call, en_dfl, d_is_valued, arrange, pick, h2, LR_eq, rec_LR, get_right]
end Cw

set_option Elab.async false
set_option linter.all false
set_option maxRecDepth 100000
set_option maxHeartbeats 1000000
/-! PC: sums of bags. -/
namespace Cw
open Ev
open PySem (Str PyData)
theorem und_encL {m : Nat} (l : Bg) : (D.tup (l.map encE)).und m = true := und_encV (.bag l)
theorem get_acc {k : Kd} {L : Nat} {M : Mem} {acc : Bg} {x : Pv} (hM : M[L]? = some (.dct (encKV acc))) (ty : typed k acc) (hx : hasP k x = true) (hk : k.dp ≤ 8) : metD .get (.obj L) [encP x, .int 0] M = .ok (.int ((dget acc x).getD 0)) M := by
  simp only [metD, dctOf, hM, kOk_enc ty hx hk, if_true, kget_enc]
  cases dget acc x <;> rfl
theorem idx_acc {k : Kd} {L : Nat} {M : Mem} {acc : Bg} {x : Pv} (hM : M[L]? = some (.dct (encKV acc))) (ty : typed k acc) (hx : x ∈ keys acc) (hk : k.dp ≤ 8) : idxD (.obj L) (encP x) M = .ok (.int ((dget acc x).getD 0)) M := by
  obtain ⟨p, hp, rfl⟩ := mem_keys.mp hx
  obtain ⟨v, hv⟩ := dget_some hx
  simp only [idxD, dctOf, hM, kOk_enc ty (ty p hp) hk, if_true, kget_enc, hv, Option.map_some, Option.getD_some]
theorem rec_acc {L : Nat} {M : Mem} {acc : Bg} (hM : M[L]? = some (.dct (encKV acc))) : recD .get M (.obj L) = true := by simp [recD, dctOf, hM]
theorem set_acc {k : Kd} {L : Nat} {M : Mem} {acc : Bg} {x : Pv} {v : Int} (hM : M[L]? = some (.dct (encKV acc))) (ty : typed k acc) (hx : hasP k x = true) (hk : k.dp ≤ 8) (hl : acc.length < LIM) : setD (.obj L) (encP x) (.int v) M = some (M.set L (.dct (encKV (dset acc x v)))) := by
  have l1 : (encKV acc).length < LIM := by simpa [encKV] using hl
  simp only [setD, hM, kOk_enc ty hx hk, l1, decide_true, und_encP x, Bool.and_self, kset_enc, D.und, if_true]
theorem filter_norm {l : Bg} : ((srt (keys l)).filter fun x => decide ((dget l x).getD 0 ≠ 0)).map (fun x => encE (x, (dget l x).getD 0)) = (norm l).map encE := by
  unfold norm
  rw [List.map_map]
  rfl
theorem run_bag_by {k : Kd} {l : Bg} {L n : Nat} {M : Mem} (hk : k.dp ≤ 8) (ty : typed k l) (nd : (keys l).Nodup) (hl : l.length ≤ LIM) (hM : M[L]? = some (.dct (encKV l))) (hn : 1 ≤ n) : run P n (.fn "bag_by") [.obj L] M = .ok (.tup ((norm l).map encE)) M := by
  obtain ⟨n, rfl, _⟩ := succ_of (m := 0) hn
  refine run_pure l_bag_by rfl rfl ?_ (und_encL _)
  have so := fun (call : D → List D → Mem → Res D) => sorted_enc (call := call) ty (by omega) hl hM nd
  have N2 : start' t_bag_by.N [.obj L] = [some (.obj L), none] := rfl
  rw [N2]
  simp only [t_bag_by, exs_cons, ex_ret, ev_blt, evs_cons, evs_nil, ev_comp, evi_val, ev_var, List.getElem?_cons_zero, Res.bind_ok, so, walk_lst, List.map_cons, List.map_nil, wipe', List.set_cons_succ, List.set_cons_zero]
  rw [compL_fm (h := encP) (φ := fun x => encE (x, (dget l x).getD 0)) (ψ := fun x => decide ((dget l x).getD 0 ≠ 0)) (l := srt (keys l))]
  · rw [filter_norm]
    simp only [List.nil_append, fresh_f, Res.bind_ok, bltD, lrOf] <;> rfl
  · intro x hx
    have hx := (srt_perm _).mem_iff.mp hx
    have ix := idx_acc hM ty hx hk
    refine ⟨[some (.obj L), some (encP x)], by simp, ?_, ?_⟩
    · simp [ix]
    · simp [ix, LIM, encE]
  · have := (srt_perm (keys l)).length_eq
    simp only [List.length_nil, Nat.zero_add, this]
    simpa [keys] using hl
def sb1 : SL := .cons (.asg (.sub (.var 2) (.var 3)) (.bin .Add (.met .get (.var 2) (.cons (.var 3) (.cons (.k (.int 0)) .nil))) (.var 4))) .nil
theorem sum_body : t_sum_of_bags.body = .cons (.asg (.var 2) (.blt .dict (.cons (.var 0) .nil))) (.cons (.for_ (.tup (.cons (.var 3) (.cons (.var 4) .nil))) (.val (.var 1)) sb1) (.cons (.ret (.call "bag_by" (.cons (.var 2) .nil) .nil [.inl 0])) .nil)) := rfl
/-- what is added so far -/
theorem dsum_take {a b : Bg} {i : Nat} {p : Pv × Int} (h : b[i]? = some p) : dsum a (b.take (i + 1)) = dadd (dsum a (b.take i)) p := by
  rw [List.take_add_one, h]
  simp [dsum_append, dsum]
theorem run_sum_of_bags {k : Kd} {a b : Bg} {n : Nat} {M : Mem} (ha : IsBag k a) (hb : typed k b) (hk : k.dp ≤ 8) (hl : a.length + b.length < LIM) (hn : 2 ≤ n) : run P n (.fn "sum_of_bags") [.tup (a.map encE), .tup (b.map encE)] M = .ok (.tup ((bplus a b).map encE)) M := by
  obtain ⟨n, rfl, hn⟩ := succ_of (m := 1) hn
  have tk : ∀ i, typed k (b.take i) := fun i p hp => hb p (List.mem_of_mem_take hp)
  have fa := fun i => dsum_facts ha.nodup ha.ty (tk i)
  have at1 : ∀ acc : Bg, (M ++ [Cell.dct (encKV acc)])[M.length]? = some (.dct (encKV acc)) := fun acc => by simp
  have dc : bltD (run P n) .dict [.tup (a.map encE)] M = .ok (.obj M.length) (M ++ [.dct (encKV a)]) := by
    have := dictF_enc (l := a) (acc := []) (by simpa using ha.nodup)
    simp only [List.nil_append] at this
    unfold bltD
    simp only [tlOf, Option.bind_some, pairs_enc, pairsOk_enc ha.ty hk (by omega), if_true]
    rw [show ([] : List (D × D)) = encKV [] from rfl, this]
    rfl
  obtain ⟨σ1, M1, e1, ⟨x, y, rfl⟩, rfl⟩ := forW_inv (w := none) (all := b.map encE) (xs := b.map encE) (σ := [some (.tup (a.map encE)), some (.tup (b.map encE)), some (.obj M.length), none, none]) (M := M ++ [.dct (encKV a)])
    (Inv := fun i σ M' => (∃ x y, σ = [some (.tup (a.map encE)), some (.tup (b.map encE)), some (.obj M.length), x, y]) ∧ M' = M ++ [.dct (encKV (dsum a (b.take i)))])
    (g := fun d σ M => asT (P.en (run P n)) (.tup (.cons (.var 3) (.cons (.var 4) .nil))) d σ M) (f := fun σ M => exs (P.en (run P n)) sb1 σ M)
    (fun _ _ _ _ _ => chkW_none)
    (fun i d σ M' hd inv => by
      obtain ⟨⟨x, y, rfl⟩, rfl⟩ := inv
      rw [List.getElem?_map] at hd
      obtain ⟨p, hp, rfl⟩ := Option.map_eq_some_iff.mp hd
      have hi : i < b.length := (List.getElem?_eq_some_iff.mp hp).1
      have hpk := hb p (List.mem_of_getElem? hp)
      obtain ⟨f1, f2, f3, _⟩ := fa i
      simp only [List.length_take] at f3
      have ga := get_acc (at1 (dsum a (b.take i))) f2 hpk hk
      have ra := rec_acc (at1 (dsum a (b.take i)))
      have sa := set_acc (v := (dget (dsum a (b.take i)) p.1).getD 0 + p.2) (at1 (dsum a (b.take i))) f2 hpk hk (by omega)
      refine ⟨[some (.tup (a.map encE)), some (.tup (b.map encE)), some (.obj M.length), some (encP p.1), some (.int p.2)], M ++ [.dct (encKV (dsum a (b.take i)))], by simp [encE, TL.len], [some (.tup (a.map encE)), some (.tup (b.map encE)), some (.obj M.length), some (encP p.1), some (.int p.2)], M ++ [.dct (encKV (dsum a (b.take (i + 1))))], ?_, ⟨_, _, rfl⟩, rfl⟩
      rw [dsum_take hp]
      simp only [sb1]
      simp [ga, ra, sa, dadd])
    ⟨⟨none, none, rfl⟩, by simp [dsum]⟩
  simp only [List.length_map, List.take_length] at e1
  obtain ⟨f1, f2, f3, _⟩ := dsum_facts ha.nodup ha.ty hb
  have bb := run_bag_by (n := n) hk f2 f1 (by omega) (at1 (dsum a b)) (by omega)
  have : M = (M ++ [Cell.dct (encKV (dsum a b))]).take M.length := by simp
  rw [this, ← this]
  conv => rhs; rw [this]
  refine run_ret l_sum_of_bags rfl rfl ?_ (und_encL _)
  rw [sum_body]
  have N5 : start' t_sum_of_bags.N [.tup (a.map encE), .tup (b.map encE)] = [some (.tup (a.map encE)), some (.tup (b.map encE)), none, none, none] := rfl
  rw [N5]
  simp only [exs_cons, ex_asg, ev_blt, evs_cons, evs_nil, ev_var, List.getElem?_cons_zero, List.getElem?_cons_succ, Res.bind_ok, en_call, dc, asT_var, List.set_cons_succ, List.set_cons_zero, seqF_next, ex_for, evi_val, walk_tup]
  rw [e1]
  simp [en_call, en_dfl, d_bag_by, arrange, pick, bb] <;> rfl
end Cw

set_option Elab.async false
set_option linter.all false
set_option maxRecDepth 100000
set_option maxHeartbeats 1000000
/-! PD: plus_by, changes: is_change_by, fits_by, led_by. -/
namespace Cw
open Ev
open PySem (Str PyData)
theorem sh_nil : D.sh 60 (.tup []) = true := by simp [D.sh, shs]
theorem cmp_neT {l : List D} {M : Mem} (h : (D.tup l).pl = true) : cmpD .NotEq (.tup l) (.tup []) M = .ok (.bl (!l.isEmpty)) M := by
  have e : eqOk (.tup l) (.tup []) = true := by simp only [eqOk, h, sh_nil, Bool.and_self, Bool.or_true]
  simp only [cmpD, cmpEq, D.top, e, if_true]
  congr 2
  cases l with
  | nil => simp [eqD, eqDs]
  | cons a r => simp [eqD, eqDs]
theorem cmp_tupS {l : List D} {s : Str} {M : Mem} (h : (D.tup l).pl = true) (hs : PyData.strOk s = true) : cmpD .Eq (.tup l) (.str s) M = .ok (.bl false) M := by
  have e : eqOk (.tup l) (.str s) = true := by simp only [eqOk, h, D.sh, hs, Bool.and_self, Bool.or_true]
  simp only [cmpD, emptyT, cmpEq, D.top, e, if_true]
  simp [eqD]
theorem pl_encE (p : Pv × Int) : (encE p).pl = true := by simp [encE, D.pl, pls, pl_encP p.1]
theorem run_is_paired_b {l : Bg} {n : Nat} {M : Mem} (hn : 1 ≤ n) : run P n (.fn "is_paired") [.tup (l.map encE)] M = .ok (.bl false) M := by
  obtain ⟨n, rfl, _⟩ := succ_of (m := 0) hn
  refine run_pure l_is_paired rfl rfl ?_ und_bl
  have ne := fun M => cmp_neT (l := l.map encE) (M := M) (pl_encV (.bag l))
  cases l with
  | nil => simp [t_is_paired, start', LIM] at ne ⊢; simp [ne]
  | cons p r =>
    have cs := fun M => cmp_tupS (l := [encP p.1, .int p.2]) (s := "pair") (M := M) (pl_encE p) ok_pair
    simp only [List.map_cons] at ne ⊢
    simp [t_is_paired, start', LIM, ne]
    simp only [encE]
    simp [cs]
theorem run_is_paired_p {a b : Vl} {n : Nat} {M : Mem} (hn : 1 ≤ n) : run P n (.fn "is_paired") [.tup [.str "pair", encV a, encV b]] M = .ok (.bl true) M := by
  obtain ⟨n, rfl, _⟩ := succ_of (m := 0) hn
  refine run_pure l_is_paired rfl rfl ?_ und_bl
  have ne := fun M => cmp_neT (l := [.str "pair", encV a, encV b]) (M := M) (pl_encV (.pair a b))
  simp [t_is_paired, start', LIM, ne]
theorem run_plus_by {k : Kd} (g : k.gr = true) : ∀ {a b : Vl} {n : Nat} {M : Mem}, has k a → has k b → ms a + ms b ≤ LIM → k.dp ≤ 9 → k.dp + 2 ≤ n → run P n (.fn "plus_by") [encV a, encV b] M = .ok (encV (vplus a b)) M := by
  revert g
  refine gr_ind (C := fun k => ∀ {a b : Vl} {n : Nat} {M : Mem}, has k a → has k b → ms a + ms b ≤ LIM → k.dp ≤ 9 → k.dp + 2 ≤ n → run P n (.fn "plus_by") [encV a, encV b] M = .ok (encV (vplus a b)) M) ?_ ?_ ?_ k
  · intro a b n M ha hb hm hk hn
    obtain ⟨n, rfl, hn⟩ := succ_of hn
    obtain ⟨i, rfl⟩ := has_num ha; obtain ⟨j, rfl⟩ := has_num hb
    refine run_pure l_plus_by rfl rfl ?_ (und_encV _)
    simp [t_plus_by, start', encV, vplus, isi_int]
  · intro k hpl a b n M ha hb hm hk hn
    obtain ⟨n, rfl, hn⟩ := succ_of hn
    obtain ⟨x, rfl, b1⟩ := has_bag ha; obtain ⟨y, rfl, b2⟩ := has_bag hb
    simp only [Kd.dp] at hk hn
    simp only [ms] at hm
    have l1 := mB_len (a := x)
    have l2 := mB_len (a := y)
    have ip := fun M => run_is_paired_b (l := x) (n := n) (M := M) (by omega)
    have sb := fun M => run_sum_of_bags (n := n) (M := M) b1 b2.ty (by omega) (by omega) (by omega)
    refine run_pure l_plus_by rfl rfl ?_ (und_encV _)
    simp [t_plus_by, start', encV, vplus, isi_tupi, en_call, en_dfl, d_is_paired, d_sum_of_bags, arrange, pick, ip, sb]
  · intro k l _ _ ihk ihl a b n M ha hb hm hk hn
    obtain ⟨n, rfl, hn⟩ := succ_of hn
    obtain ⟨a1, a2, rfl, h1, h2⟩ := has_pair ha; obtain ⟨b1, b2, rfl, h3, h4⟩ := has_pair hb
    simp only [Kd.dp] at hk hn
    simp only [ms] at hm
    have ip := fun M => run_is_paired_p (a := a1) (b := a2) (n := n) (M := M) (by omega)
    have i1 := fun M => ihk (n := n) (M := M) h1 h3 (by omega) (by omega) (by omega)
    have i2 := fun M => ihl (n := n) (M := M) h2 h4 (by omega) (by omega) (by omega)
    refine run_pure l_plus_by rfl rfl ?_ (und_encV _)
    simp [t_plus_by, start', LIM, encV, vplus, isi_tupi, en_call, en_dfl, d_is_paired, d_plus_by, arrange, pick, ip, i1, i2]
end Cw

set_option Elab.async false
set_option linter.all false
set_option maxRecDepth 100000
set_option maxHeartbeats 1000000
/-! PE: checks; fits, led. -/
namespace Cw
open Ev
open PySem (Str PyData)
section
variable {k : Kd} {v c : Vl} {n : Nat} {M : Mem}
theorem run_check_value (h : has k v) (hm : ms v ≤ LIM) (hk : k.dp ≤ 9) (hn : k.dp + 6 ≤ n) : run P n (.fn "check_value") [enc k, encV v] M = .ok .non M := by
  obtain ⟨n, rfl, hn⟩ := succ_of hn
  have i1 := fun M => run_is_valued k v n M h hm (by omega) (by omega)
  rw [run_step l_check_value rfl]
  simp [t_check_value, start', en_call, en_dfl, d_is_valued, arrange, pick, i1]
end
end Cw

set_option Elab.async false
set_option linter.all false
set_option maxRecDepth 100000
set_option maxHeartbeats 1000000
/-! PF: the urn: draws of numbers and kinds. -/
namespace Cw
open Ev
open PySem (Str PyData)
/-- the urn: its numbers kept small enough -/
def Wl (M : Mem) (j : Nat) : Prop := ∃ a b c : Int, M[j]? = some (.lst [.int a, .int b, .int c])
/-- the urn has turned; all else is as it was -/
structure Stp (j : Nat) (M M' : Mem) : Prop where
  len : M'.length = M.length
  wl : Wl M' j
  fr : ∀ i, i ≠ j → M'[i]? = M[i]?
theorem Stp.trans {j : Nat} {M M' M'' : Mem} (a : Stp j M M') (b : Stp j M' M'') : Stp j M M'' := ⟨b.1.trans a.1, b.2, fun i h => (b.3 i h).trans (a.3 i h)⟩
theorem Wl.lt {M : Mem} {j : Nat} (h : Wl M j) : j < M.length := by
  obtain ⟨_, _, _, h⟩ := h
  exact (List.getElem?_eq_some_iff.mp h).1
theorem Stp.refl {j : Nat} {M : Mem} (h : Wl M j) : Stp j M M := ⟨rfl, h, fun _ _ => rfl⟩
theorem Stp.ext {j : Nat} {M M' : Mem} (h : Stp j M M') {i : Nat} {x : Cell} (hi : M[i]? = some x) (hj : i ≠ j) : M'[i]? = some x := by rw [h.3 i hj]; exact hi
section
variable {M : Mem} {j n : Nat} {a b c v : Int}
theorem set_0 (h : M[j]? = some (.lst [.int a, .int b, .int c])) : setD (.obj j) (.int 0) (.int v) M = some (M.set j (.lst [.int v, .int b, .int c])) := by
  simp [setD, h, L2.ixN, D.und]
theorem set_1 (h : M[j]? = some (.lst [.int a, .int b, .int c])) : setD (.obj j) (.int 1) (.int v) M = some (M.set j (.lst [.int a, .int v, .int c])) := by
  simp [setD, h, L2.ixN, D.und]
theorem set_2 (h : M[j]? = some (.lst [.int a, .int b, .int c])) : setD (.obj j) (.int 2) (.int v) M = some (M.set j (.lst [.int a, .int b, .int v])) := by
  simp [setD, h, L2.ixN, D.und]
theorem at_set {x : Cell} (h : j < M.length) : (M.set j x)[j]? = some x := List.getElem?_set_self h
theorem divmod_ii {call : D → List D → Mem → Res D} {x y : Int} (h : 0 < y) (k : y < 18446744073709551616) : bltD call .divmod [.int x, .int y] M = .ok (.tup [.int (x / y), .int (x % y)]) M := by
  simp [bltD, h, k]
theorem mul_r {i j : Int} {M : Mem} (h : i64 j = true) : binD .Mult (.int i) (.int j) M = .ok (.int (i * j)) M := mul_ii (by rw [h]; simp)
theorem mul_l {i j : Int} {M : Mem} (h : i64 i = true) : binD .Mult (.int i) (.int j) M = .ok (.int (i * j)) M := mul_ii (by rw [h]; rfl)
theorem i64_of {x : Int} (h : 0 ≤ x) (k : x < 18446744073709551616) : i64 x = true := by unfold i64; exact decide_eq_true ⟨by omega, by omega⟩
theorem leave_enc {k : Kd} {m : Nat} {M : Mem} (h : m = M.length) : leave .drop m (enc k) M = .ok (enc k) M := leave_und (und_enc _ _) h
theorem leave_V {v : Vl} {m : Nat} {M : Mem} (h : m = M.length) : leave .drop m (encV v) M = .ok (encV v) M := leave_und (und_encV _) h
/-- such a kind is drawn -/
def Draws (f : Str) (Q : Kd → Bool) (j n : Nat) (M : Mem) (x : Int) : Prop := ∃ k M', run P n (.fn f) [.obj j, .int x] M = .ok (enc k) M' ∧ Q k = true ∧ (k.dp : Int) ≤ x + 1 ∧ Stp j M M'
end
end Cw

set_option Elab.async false
set_option linter.all false
set_option maxRecDepth 100000
set_option maxHeartbeats 1000000
/-! PH: the law's bags, numbers, values. -/
namespace Cw
open Ev
open PySem (Str PyData)
def lb1 : SL := .cons (.asg (.sub (.var 1) (.var 2)) (.bin .Add (.met .get (.var 1) (.cons (.var 2) (.cons (.k (.int 0)) .nil))) (.var 3))) .nil
def lb2 : C := .blt .tuple (.cons (.comp false [("_law_value_here", 2)] (.var 2) (.val (.blt .sorted (.cons (.var 1) .nil))) (.some (.cmp .NotEq (.idx (.var 1) (.var 2)) (.k (.int 0)))) (.tup (.cons (.var 2) (.cons (.idx (.var 1) (.var 2)) .nil)))) .nil)
theorem list_tup {call : D → List D → Mem → Res D} {l : List D} {M : Mem} : bltD call .list [.tup l] M = .ok (.lst l) M := rfl
end Cw

set_option Elab.async false
set_option linter.all false
set_option maxRecDepth 100000
set_option maxHeartbeats 1000000
/-! PI: drawn values; what is told is what is due. -/
namespace Cw
open Ev
open PySem (Str PyData)
theorem ms_emb : ∀ p : Pv, ms (emb p) = mP p
  | .unit => rfl
  | .num _ => rfl
  | .pair a b => by simp only [emb, ms, mP, ms_emb a, ms_emb b]
  | .left a => by simp only [emb, ms, mP, ms_emb a]
  | .right a => by simp only [emb, ms, mP, ms_emb a]
theorem bd_emb {n : Nat} : ∀ p : Pv, bdV n (emb p) ↔ bdP n p
  | .unit => Iff.rfl
  | .num _ => Iff.rfl
  | .pair a b => by simp only [emb, bdV, bdP, bd_emb a, bd_emb b]
  | .left a => by simp only [emb, bdV, bdP, bd_emb a]
  | .right a => by simp only [emb, bdV, bdP, bd_emb a]
/-- a drawn value -/
structure Dr (k : Kd) (v : Vl) : Prop where
  hs : has k v
  bd : bdV 45 v
  m2 : ms v + 20 ≤ 160 * 2 ^ k.dp
  m1 : k.pl = true → ms v + 20 ≤ 33 * 2 ^ k.dp
theorem mB_le {c : Nat} : ∀ {l : Bg}, (∀ p ∈ l, mE p ≤ c) → mB l ≤ l.length * c
  | [], _ => by simp [mB]
  | p :: r, h => by
    have h1 := h p List.mem_cons_self
    have h2 := mB_le (l := r) fun q hq => h q (List.mem_cons_of_mem _ hq)
    simp only [mB, List.length_cons, Nat.add_mul, Nat.one_mul]; omega
theorem mI_cnt {x : Pv} : ∀ {l : Bg}, (∀ p ∈ l, mI p.2 ≤ 5) → mI (cnt l x) ≤ 3 + 5 * l.length
  | [], _ => by show mI 0 ≤ 3; decide +kernel
  | p :: r, h => by
    have h1 := h p List.mem_cons_self
    have h2 := mI_cnt (x := x) (l := r) fun q hq => h q (List.mem_cons_of_mem _ hq)
    simp only [cnt, List.length_cons]
    split
    · have := mI_add p.2 (cnt r x); omega
    · rw [Int.zero_add]; omega
theorem two_pow (d : Nat) : 1 ≤ 2 ^ d := Nat.one_le_two_pow
theorem pow_max {a b c : Nat} (h : a ≤ c) : 2 ^ a ≤ 2 ^ c := Nat.pow_le_pow_right (by decide) h
theorem dr_pair {k l : Kd} {a b : Vl} (h1 : Dr k a) (h2 : Dr l b) : Dr (.pair k l) (.pair a b) := by
  have p1 : 2 ^ k.dp ≤ 2 ^ max k.dp l.dp := pow_max (b := 0) (Nat.le_max_left _ _)
  have p2 : 2 ^ l.dp ≤ 2 ^ max k.dp l.dp := pow_max (b := 0) (Nat.le_max_right _ _)
  refine ⟨⟨h1.hs, h2.hs⟩, ⟨h1.bd, h2.bd⟩, ?_, fun hp => ?_⟩
  · have := h1.m2; have := h2.m2
    simp only [ms, Kd.dp, Nat.pow_succ]; omega
  · simp only [Kd.pl, Bool.and_eq_true] at hp
    have := h1.m1 hp.1; have := h2.m1 hp.2
    simp only [ms, Kd.dp, Nat.pow_succ]; omega
theorem dr_left {k l : Kd} {a : Vl} (h1 : Dr k a) : Dr (.either k l) (.left a) := by
  have p1 : 2 ^ k.dp ≤ 2 ^ max k.dp l.dp := pow_max (b := 0) (Nat.le_max_left _ _)
  have p3 := two_pow (max k.dp l.dp)
  refine ⟨h1.hs, h1.bd, ?_, fun hp => ?_⟩
  · have := h1.m2
    simp only [ms, Kd.dp, Nat.pow_succ]; omega
  · simp only [Kd.pl, Bool.and_eq_true] at hp
    have := h1.m1 hp.1
    simp only [ms, Kd.dp, Nat.pow_succ]; omega
theorem dr_right {k l : Kd} {a : Vl} (h1 : Dr l a) : Dr (.either k l) (.right a) := by
  have p1 : 2 ^ l.dp ≤ 2 ^ max k.dp l.dp := pow_max (b := 0) (Nat.le_max_right _ _)
  have p3 := two_pow (max k.dp l.dp)
  refine ⟨h1.hs, h1.bd, ?_, fun hp => ?_⟩
  · have := h1.m2
    simp only [ms, Kd.dp, Nat.pow_succ]; omega
  · simp only [Kd.pl, Bool.and_eq_true] at hp
    have := h1.m1 hp.2
    simp only [ms, Kd.dp, Nat.pow_succ]; omega
/-- such an entry is drawn -/
structure De (k : Kd) (p : Pv × Int) : Prop where
  hs : hasP k p.1 = true
  bd : bdP 45 p.1
  t : mI p.2 ≤ 5
  m : mP p.1 + 20 ≤ 33 * 2 ^ k.dp
theorem dr_bag {k : Kd} {l : Bg} (h : ∀ p ∈ l, De k p) (hl : l.length ≤ 3) : Dr (.bag k) (.bag (norm (dsum [] l))) := by
  have n0 : (keys ([] : Bg)).Nodup := List.nodup_nil
  have t0 : typed k [] := fun _ h => (nomatch h)
  obtain ⟨f1, f2, f3, f4⟩ := dsum_facts n0 t0 (fun p hp => (h p hp).hs)
  have ib := norm_bag f1 f2
  have p3 := two_pow k.dp
  refine ⟨ib, ?_, ?_, fun hp => by simp [Kd.pl] at hp⟩
  · intro p hp
    have e1 : p.2 = cnt l p.1 := by
      have := cnt_norm (x := p.1) f1
      rw [f4] at this
      simp only [cnt, Int.zero_add] at this
      rw [← this, ← dget_cnt ib.nodup]
      exact (dget_mem ib.nodup p hp).symm
    constructor
    · have : p.1 ∈ keys (norm (dsum [] l)) := mem_keys.mpr ⟨p, hp, rfl⟩
      rw [keys_norm] at this
      have := (srt_perm _).mem_iff.mp (List.mem_filter.mp this).1
      rcases keys_dsum this with q | q
      · cases q
      · obtain ⟨q, hq, e⟩ := mem_keys.mp q
        rw [← e]; exact (h q hq).bd
    · rw [e1]
      have := mI_cnt (x := p.1) (l := l) fun q hq => (h q hq).t
      omega
  · have e1 := mB_norm f1
    have e2 := mB_dsum (l := l) (acc := []) n0
    have e3 := mB_le (c := 33 * 2 ^ k.dp) (l := l) fun p hp => by
      have q := h p hp
      have := q.m; have := q.t
      unfold mE; omega
    have e4 : l.length * (33 * 2 ^ k.dp) ≤ 3 * (33 * 2 ^ k.dp) := Nat.mul_le_mul_right _ hl
    simp only [mB] at e2
    simp only [ms, Kd.dp, Nat.pow_succ]; omega
section
variable {j n : Nat} {M : Mem}
/-- a value is drawn -/
def DrawsV (f : Str) (k : Kd) (as : List D) (j n : Nat) (M : Mem) : Prop := ∃ v M', run P n (.fn f) as M = .ok (encV v) M' ∧ Dr k v ∧ Stp j M M'
def lv1 : SL := .cons (.ex (.met .append (.var 2) (.cons (.tup (.cons (.call "_law_value" (.cons (.var 0) (.cons (.idx (.var 1) (.k (.int 1))) .nil)) .nil [.inl 0, .inl 1]) (.cons (.call "_law_one" (.cons (.var 0) (.cons (.tup (.cons (.k (.int 1)) (.cons (.k (.int 2)) (.cons (.una .USub (.k (.int 1))) (.cons (.k (.int 1)) (.cons (.k (.int 4)) (.cons (.una .USub (.k (.int 3))) .nil))))))) .nil)) .nil [.inl 0, .inl 1]) .nil))) .nil))) .nil
structure LVi (j : Nat) (k : Kd) (M : Mem) (i : Nat) (σ : St') (M' : Mem) (l : Bg) : Prop where
  len : l.length = i
  all : ∀ p ∈ l, De k p
  loc : ∃ t, σ = [some (.obj j), some (enc (.bag k)), some (.obj M.length), t, none, none]
  cell : M'[M.length]? = some (.lst (l.map encE))
  mlen : M'.length = M.length + 1
  wl : Wl M' j
  fr : ∀ i, i ≠ j → i < M.length → M'[i]? = M[i]?
end
end Cw

set_option Elab.async false
set_option linter.all false
set_option maxRecDepth 100000
set_option maxHeartbeats 1000000
/-! ThG: values compared. -/
namespace Cw
open Ev
open PySem (Str PyData)
theorem shs_of {n : Nat} : ∀ {l : List D}, (∀ d ∈ l, d.sh n = true) → shs n l = true
  | [], _ => by simp [shs]
  | d :: r, h => by simp only [shs, h d List.mem_cons_self, shs_of fun x hx => h x (List.mem_cons_of_mem _ hx), Bool.and_self]
theorem sh_encP : ∀ {k : Kd} {p : Pv} {n : Nat}, hasP k p = true → k.dp ≤ n → (encP p).sh n = true := by
  intro k
  induction k with
  | unit => intro p n h hn; cases p <;> simp [hasP] at h; obtain ⟨n, rfl, _⟩ := succ_of hn; simp [encP, D.sh, shs]
  | num => intro p n h hn; cases p <;> simp [hasP] at h; cases n <;> simp [encP, D.sh]
  | bag k _ => intro p n h; cases p <;> simp [hasP] at h
  | fn k l _ _ => intro p n h; cases p <;> simp [hasP] at h
  | pair k l ihk ihl =>
    intro p n h hn
    cases p <;> simp [hasP] at h
    have d1 := dp_pos k
    obtain ⟨n, rfl, hn⟩ := succ_of hn
    have e1 := ihk (n := n) h.1 (by omega)
    have e2 := ihl (n := n) h.2 (by omega)
    obtain ⟨n, rfl⟩ : ∃ m, n = m + 1 := ⟨n - 1, by omega⟩
    simp [encP, D.sh, shs, e1, e2]
  | either k l ihk ihl =>
    intro p n h hn
    have d1 := dp_pos k
    obtain ⟨n, rfl, hn⟩ := succ_of hn
    obtain ⟨n, rfl⟩ : ∃ m, n = m + 1 := ⟨n - 1, by omega⟩
    cases p <;> simp [hasP] at h
    · have e1 := ihk (n := n + 1) h (by omega)
      simp [encP, D.sh, shs, e1]
    · have e1 := ihl (n := n + 1) h (by omega)
      simp [encP, D.sh, shs, e1]
theorem sh_encV : ∀ {k : Kd} {v : Vl} {n : Nat}, has k v → k.dp + 1 ≤ n → (encV v).sh n = true := by
  intro k
  induction k with
  | unit => intro v n h hn; rw [has_unit h]; obtain ⟨n, rfl, _⟩ := succ_of hn; simp [encV, D.sh, shs]
  | num => intro v n h hn; obtain ⟨i, rfl⟩ := has_num h; cases n <;> simp [encV, D.sh]
  | fn k l _ _ => intro v n h; cases v <;> simp only [has] at h
  | bag k _ =>
    intro v n h hn
    obtain ⟨l, rfl, b⟩ := has_bag h
    simp only [Kd.dp] at hn
    obtain ⟨n1, rfl, hn1⟩ := succ_of hn
    obtain ⟨n, rfl, hn2⟩ := succ_of hn1
    simp only [encV, D.sh]
    refine shs_of fun d hd => ?_
    obtain ⟨p, hp, rfl⟩ := List.mem_map.mp hd
    have e1 := sh_encP (n := n) (b.ty p hp) hn2
    simp only [encE, D.sh, shs, e1, Bool.true_and, Bool.and_true]
  | pair k l ihk ihl =>
    intro v n h hn
    obtain ⟨a, b, rfl, h1, h2⟩ := has_pair h
    have d1 := dp_pos k
    simp only [Kd.dp] at hn
    obtain ⟨n, rfl, hn⟩ := succ_of hn
    have e1 := ihk (n := n) h1 (by omega)
    have e2 := ihl (n := n) h2 (by omega)
    obtain ⟨n, rfl⟩ : ∃ m, n = m + 1 := ⟨n - 1, by omega⟩
    simp [encV, D.sh, shs, e1, e2]
  | either k l ihk ihl =>
    intro v n h hn
    have d1 := dp_pos k
    simp only [Kd.dp] at hn
    obtain ⟨n, rfl, hn⟩ := succ_of hn
    obtain ⟨n, rfl⟩ : ∃ m, n = m + 1 := ⟨n - 1, by omega⟩
    rcases has_either h with ⟨a, rfl, h'⟩ | ⟨a, rfl, h'⟩
    · have e1 := ihk (n := n + 1) h' (by omega)
      simp [encV, D.sh, shs, e1]
    · have e1 := ihl (n := n + 1) h' (by omega)
      simp [encV, D.sh, shs, e1]
theorem top_encV {v : Vl} {M : Mem} : (encV v).top M = encV v := by cases v <;> rfl
theorem cmp_eq_of {x y : D} {M : Mem} (h : eqOk x y = true) (hx : x.top M = x) (hy : y.top M = y) : cmpD .Eq x y M = .ok (.bl (eqD x y)) M := by
  unfold cmpD
  dsimp only
  split
  · rename_i b hb
    unfold emptyT at hb
    split at hb
    · cases hb
      rename_i l
      cases l <;> simp [eqD, eqDs]
    · cases hb; simp [eqD]
    · cases hb
  · simp only [cmpEq, hx, hy, h, if_true, Bool.false_bne]
theorem cmp_eqV {k : Kd} {a b : Vl} {M : Mem} (ha : has k a) (hk : k.dp ≤ 59) : cmpD .Eq (encV a) (encV b) M = .ok (.bl (eqD (encV a) (encV b))) M :=
  cmp_eq_of (by simp only [eqOk, sh_encV (n := 60) ha (by omega), pl_encV b, Bool.and_self, Bool.true_or]) top_encV top_encV
theorem eqDs_refl : ∀ {l : List D}, (∀ d ∈ l, eqD d d = true) → eqDs l l = true
  | [], _ => rfl
  | d :: r, h => by simp only [eqDs, h d List.mem_cons_self, eqDs_refl fun x hx => h x (List.mem_cons_of_mem _ hx), Bool.and_self]
theorem eqP_refl : ∀ p : Pv, eqD (encP p) (encP p) = true
  | .unit => by simp [encP, eqD, eqDs]
  | .num i => by simp [encP, eqD]
  | .pair a b => by simp [encP, eqD, eqDs, eqP_refl a, eqP_refl b]
  | .left a => by simp [encP, eqD, eqDs, eqP_refl a]
  | .right a => by simp [encP, eqD, eqDs, eqP_refl a]
theorem eqV_refl : ∀ v : Vl, eqD (encV v) (encV v) = true
  | .unit => by simp [encV, eqD, eqDs]
  | .num i => by simp [encV, eqD]
  | .pair a b => by simp [encV, eqD, eqDs, eqV_refl a, eqV_refl b]
  | .left a => by simp [encV, eqD, eqDs, eqV_refl a]
  | .right a => by simp [encV, eqD, eqDs, eqV_refl a]
  | .bag l => by
    simp only [encV, eqD]
    refine eqDs_refl fun d hd => ?_
    obtain ⟨p, hp, rfl⟩ := List.mem_map.mp hd
    simp [encE, eqD, eqDs, eqP_refl p.1]
theorem dt_dK {k : Kd} (g : k.dt = true) : (dK k).dt = true := by
  revert g
  refine dt_ind (C := fun k => (dK k).dt = true) rfl rfl (fun k h => h) (fun k l _ _ h1 h2 => ?_) (fun k l g1 g2 h1 h2 => ?_) k
  · simp only [dK, Kd.dt, h1, h2, Bool.and_self]
  · simp only [dK, Kd.dt, h1, h2, g1, g2, Bool.and_self]
theorem dp_dK : ∀ k : Kd, k.dt = true → (dK k).dp + 1 ≤ 2 * k.dp := by
  refine dt_ind (C := fun k => (dK k).dp + 1 ≤ 2 * k.dp) (by decide) (by decide) (fun k h => ?_) (fun k l _ _ h1 h2 => ?_) (fun k l g1 g2 h1 h2 => ?_)
  · have := dp_pos k
    simp only [dK, Kd.dp]; omega
  · simp only [dK, Kd.dp]; omega
  · have := dp_pos k
    have := dp_pos l
    simp only [dK, Kd.dp]; omega
end Cw

set_option Elab.async false
set_option linter.all false
set_option maxRecDepth 100000
set_option maxHeartbeats 1000000
/-! ThH: values with bounds. -/
namespace Cw
open Ev
open PySem (Str PyData)
structure Vb (N B : Nat) (k : Kd) (x : Vl) : Prop where
  h : has k x
  b : bdV N x
  m : ms x ≤ B
section
variable {k : Kd} {N N' B B' : Nat} {v w c d : Vl}
theorem Vb.led (g : k.dt = true) (hv : Vb N B k v) (hc : Vb N' B' (dK k) c) (h3 : 3 ≤ N) (h4 : 3 ≤ N') : Vb (N + N') (B + B') k (vled k v c) :=
  ⟨led_has g hv.h hc.h, bd_led g h3 h4 hv.h hc.h hv.b hc.b, Nat.le_trans (ms_led g hv.h hc.h) (Nat.add_le_add hv.m hc.m)⟩
theorem Vb.less (g : k.dt = true) (hv : Vb N B k v) (hw : Vb N' B' k w) (h3 : 3 ≤ N) (h4 : 3 ≤ N') : Vb (N + N') (B + B') (dK k) (vless k v w) :=
  ⟨less_has g hv.h hw.h, bd_less g h3 h4 hv.h hw.h hv.b hw.b, Nat.le_trans (ms_less g hv.h hw.h) (Nat.add_le_add hv.m hw.m)⟩
theorem Vb.nott (g : k.dt = true) (hv : Vb N B k v) (h3 : 3 ≤ N) : Vb (N + N) (B + B) (dK k) (vnot k v) := by
  rw [not_less g hv.h]; exact hv.less g hv h3 h3
theorem Vb.join (g : k.dt = true) (hc : Vb N B (dK k) c) (hd : Vb N' B' (dK k) d) (hj : has (dK k) (vjoin k c d)) (h3 : 3 ≤ N) (h4 : 3 ≤ N') : Vb (N + N') (B + B' + 20) (dK k) (vjoin k c d) :=
  ⟨hj, bd_join g h3 h4 hc.h hd.h hc.b hd.b, Nat.le_trans (ms_join g hc.h hd.h fun _ => rfl) (Nat.add_le_add_right (Nat.add_le_add hc.m hd.m) _)⟩
theorem Vb.mono {M C : Nat} (hv : Vb N B k v) (h1 : N ≤ M) (h2 : B ≤ C) : Vb M C k v := ⟨hv.h, bdV_mono h1 hv.b, Nat.le_trans hv.m h2⟩
theorem Vb.shw {n : Nat} (hv : Vb N B k v) (hn : k.dp + 1 ≤ n) (h : N ≤ 1900) : shw n (encV v) = true := shw_encV hv.h hn (bdV_mono h hv.b)
theorem Vb.md (hv : Vb N B k v) : mD (encV v) ≤ B := Nat.le_trans (mD_encV v) hv.m
theorem fits_not (g : k.dt = true) (h : has k v) : vfits k v (vnot k v) = true := by rw [not_less g h]; exact fits_less g h h
/-- told twice, thrice .. -/
theorem shw_all {n : Nat} {l : List D} (h : ∀ d ∈ l, Cw.shw n d = true) : Cw.shw (n + 1) (.lst l) = true := by
  simp only [Cw.shw]; exact shws_all h
theorem mDs_le {C : Nat} : ∀ {l : List D}, (∀ d ∈ l, mD d ≤ C) → mDs l ≤ l.length * (C + 2)
  | [], _ => by simp [mDs]
  | d :: r, h => by
    have h1 := h d List.mem_cons_self
    have h2 := mDs_le (l := r) fun x hx => h x (List.mem_cons_of_mem _ hx)
    simp only [mDs, List.length_cons, Nat.add_mul, Nat.one_mul]; omega
/-- fit to be shown -/
structure Sw (C : Nat) (d : D) : Prop where
  s : Cw.shw 10 d = true
  m : mD d ≤ C
theorem Vb.sw {C : Nat} (hv : Vb N B k v) (hk : k.dp ≤ 9) (h : N ≤ 1900) (hC : B ≤ C) : Sw C (encV v) := ⟨hv.shw (by omega) h, Nat.le_trans hv.md hC⟩
theorem shw_enc : ∀ {k : Kd} {n : Nat}, k.dp ≤ n → Cw.shw n (enc k) = true := by
  intro k
  induction k with
  | unit => intro n hn; obtain ⟨n, rfl, _⟩ := succ_of hn; simp [enc, Cw.shw, shws]
  | num => intro n hn; obtain ⟨n, rfl, _⟩ := succ_of hn; simp [enc, Cw.shw, shws]
  | bag k ih =>
    intro n hn; obtain ⟨n, rfl, hn⟩ := succ_of hn
    have d1 := dp_pos k
    have e := ih (n := n) (by omega)
    obtain ⟨n, rfl⟩ : ∃ m, n = m + 1 := ⟨n - 1, by omega⟩
    simp [enc, Cw.shw, shws, e]
  | pair k l ihk ihl =>
    intro n hn; obtain ⟨n, rfl, hn⟩ := succ_of hn
    have d1 := dp_pos k
    have e1 := ihk (n := n) (by omega)
    have e2 := ihl (n := n) (by omega)
    obtain ⟨n, rfl⟩ : ∃ m, n = m + 1 := ⟨n - 1, by omega⟩
    simp [enc, Cw.shw, shws, e1, e2]
  | either k l ihk ihl =>
    intro n hn; obtain ⟨n, rfl, hn⟩ := succ_of hn
    have d1 := dp_pos k
    have e1 := ihk (n := n) (by omega)
    have e2 := ihl (n := n) (by omega)
    obtain ⟨n, rfl⟩ : ∃ m, n = m + 1 := ⟨n - 1, by omega⟩
    simp [enc, Cw.shw, shws, e1, e2]
  | fn k l ihk ihl =>
    intro n hn; obtain ⟨n, rfl, hn⟩ := succ_of hn
    have d1 := dp_pos k
    have e1 := ihk (n := n) (by omega)
    have e2 := ihl (n := n) (by omega)
    obtain ⟨n, rfl⟩ : ∃ m, n = m + 1 := ⟨n - 1, by omega⟩
    simp [enc, Cw.shw, shws, e1, e2]
theorem len_k : (PyData.shown (.str "unit")).length ≤ 8 ∧ (PyData.shown (.str "num")).length ≤ 8 ∧ (PyData.shown (.str "pair")).length ≤ 8 ∧ (PyData.shown (.str "either")).length ≤ 8 ∧ (PyData.shown (.str "bag")).length ≤ 8 ∧ (PyData.shown (.str "fun")).length ≤ 8 := by decide +kernel
theorem mD_enc : ∀ k : Kd, mD (enc k) + 20 ≤ 40 * 2 ^ k.dp := by
  obtain ⟨l1, l2, l3, l4, l5, l6⟩ := len_k
  have mono : ∀ {a b : Nat}, a ≤ b → 2 ^ a ≤ 2 ^ b := fun h => Nat.pow_le_pow_right (by decide) h
  intro k
  induction k with
  | unit => simp only [enc, mD, mDs, Kd.dp]; omega
  | num => simp only [enc, mD, mDs, Kd.dp]; omega
  | bag k ih => simp only [enc, mD, mDs, Kd.dp, Nat.pow_succ]; omega
  | pair k l ihk ihl =>
    have p1 := mono (Nat.le_max_left k.dp l.dp)
    have p2 := mono (Nat.le_max_right k.dp l.dp)
    simp only [enc, mD, mDs, Kd.dp, Nat.pow_succ]; omega
  | either k l ihk ihl =>
    have p1 := mono (Nat.le_max_left k.dp l.dp)
    have p2 := mono (Nat.le_max_right k.dp l.dp)
    simp only [enc, mD, mDs, Kd.dp, Nat.pow_succ]; omega
  | fn k l ihk ihl =>
    have p1 := mono (Nat.le_max_left k.dp l.dp)
    have p2 := mono (Nat.le_max_right k.dp l.dp)
    simp only [enc, mD, mDs, Kd.dp, Nat.pow_succ]; omega
theorem sw_enc {C : Nat} (hk : k.dp ≤ 9) (hC : 20480 ≤ C) : Sw C (enc k) := ⟨shw_enc (by omega), by
  have p1 : 2 ^ k.dp ≤ 2 ^ 9 := Nat.pow_le_pow_right (by decide) hk
  have := mD_enc k
  omega⟩
theorem ms_zero : ∀ {k : Kd}, k.gr = true → ms (vzero k) + 20 ≤ 33 * 2 ^ k.dp := by
  have mono : ∀ {a b : Nat}, a ≤ b → 2 ^ a ≤ 2 ^ b := fun h => Nat.pow_le_pow_right (by decide) h
  intro k g
  revert g
  refine gr_ind (C := fun k => ms (vzero k) + 20 ≤ 33 * 2 ^ k.dp) (by decide +kernel) (fun k _ => ?_) (fun k l _ _ h1 h2 => ?_) k
  · have := mono (Nat.zero_le k.dp)
    simp only [vzero, ms, mB, Kd.dp, Nat.pow_succ]; omega
  · have p1 := mono (Nat.le_max_left k.dp l.dp)
    have p2 := mono (Nat.le_max_right k.dp l.dp)
    simp only [vzero, ms, Kd.dp, Nat.pow_succ]; omega
theorem Sw.bl {C : Nat} {b : Bool} (hC : 5 ≤ C) : Sw C (.bl b) := ⟨by simp [Cw.shw], by simp only [mD]; exact hC⟩
theorem sw_two {C : Nat} {a b : D} (ha : Sw C a) (hb : Sw C b) : ∀ d ∈ [a, b], Sw C d := fun d hd => by
  simp only [List.mem_cons, List.not_mem_nil, or_false] at hd
  rcases hd with rfl | rfl <;> assumption
theorem sw_3 {C : Nat} {a b c : D} (ha : Sw C a) (hb : Sw C b) (hc : Sw C c) : ∀ d ∈ [a, b, c], Sw C d := fun d hd => by
  simp only [List.mem_cons, List.not_mem_nil, or_false] at hd
  rcases hd with rfl | rfl | rfl <;> assumption
theorem sw_4 {C : Nat} {a b c e : D} (ha : Sw C a) (hb : Sw C b) (hc : Sw C c) (he : Sw C e) : ∀ d ∈ [a, b, c, e], Sw C d := fun d hd => by
  simp only [List.mem_cons, List.not_mem_nil, or_false] at hd
  rcases hd with rfl | rfl | rfl | rfl <;> assumption
theorem sw_5 {C : Nat} {a b c e f : D} (ha : Sw C a) (hb : Sw C b) (hc : Sw C c) (he : Sw C e) (hf : Sw C f) : ∀ d ∈ [a, b, c, e, f], Sw C d := fun d hd => by
  simp only [List.mem_cons, List.not_mem_nil, or_false] at hd
  rcases hd with rfl | rfl | rfl | rfl | rfl <;> assumption
end
end Cw

set_option Elab.async false
set_option linter.all false
set_option maxRecDepth 100000
set_option maxHeartbeats 1000000
-- from: k02 k03 k04
/-! RA: the well of four cells. -/
namespace Cw
open Ev
open PySem (Str PyData)
def W4 (M : Mem) (j : Nat) : Prop := ∃ a b c e : Int, M[j]? = some (.lst [.int a, .int b, .int c, .int e])
/-- the well has turned; all else is as it was -/
structure S4 (j : Nat) (M M' : Mem) : Prop where
  len : M'.length = M.length
  wl : W4 M' j
  fr : ∀ i, i ≠ j → M'[i]? = M[i]?
theorem S4.trans {j : Nat} {M M' M'' : Mem} (a : S4 j M M') (b : S4 j M' M'') : S4 j M M'' := ⟨b.1.trans a.1, b.2, fun i h => (b.3 i h).trans (a.3 i h)⟩
theorem W4.lt {M : Mem} {j : Nat} (h : W4 M j) : j < M.length := by
  obtain ⟨_, _, _, _, h⟩ := h
  exact (List.getElem?_eq_some_iff.mp h).1
theorem S4.refl {j : Nat} {M : Mem} (h : W4 M j) : S4 j M M := ⟨rfl, h, fun _ _ => rfl⟩
section
variable {M : Mem} {j n : Nat} {a b c e v : Int}
theorem set4_0 (h : M[j]? = some (.lst [.int a, .int b, .int c, .int e])) : setD (.obj j) (.int 0) (.int v) M = some (M.set j (.lst [.int v, .int b, .int c, .int e])) := by
  simp [setD, h, L2.ixN, D.und]
theorem set4_1 (h : M[j]? = some (.lst [.int a, .int b, .int c, .int e])) : setD (.obj j) (.int 1) (.int v) M = some (M.set j (.lst [.int a, .int v, .int c, .int e])) := by
  simp [setD, h, L2.ixN, D.und]
theorem set4_2 (h : M[j]? = some (.lst [.int a, .int b, .int c, .int e])) : setD (.obj j) (.int 2) (.int v) M = some (M.set j (.lst [.int a, .int b, .int v, .int e])) := by
  simp [setD, h, L2.ixN, D.und]
theorem run_draw {m : Int} (w : W4 M j) (h : 0 < m) (k : m < 1073741824) : ∃ r M', run P (n + 1) (.fn "_law_draw") [.obj j, .int m] M = .ok (.int r) M' ∧ 0 ≤ r ∧ r < m ∧ S4 j M M' := by
  have hj := w.lt
  obtain ⟨a, b, c, e, hM⟩ := w
  have i0 : idxD (.obj j) (.int 0) M = .ok (.int a) M := idx_obj (n := 0) hM rfl
  have i2 : idxD (.obj j) (.int 2) M = .ok (.int c) M := idx_obj (n := 2) hM rfl
  rw [run_step l__law_draw rfl]
  by_cases ha : 0 < a
  · refine ⟨a % m, M.set j (.lst [.int (a / m), .int b, .int c, .int e]), ?_, Int.emod_nonneg _ (by omega), Int.emod_lt_of_pos _ h, by simp, ⟨_, _, _, _, at_set hj⟩, fun i hi => List.getElem?_set_ne (Ne.symm hi)⟩
    simp [t__law_draw, start', i0, ha, divmod_ii h (show m < 18446744073709551616 by omega), TL.len, set4_0 hM]
    exact leave_und (by simp [D.und]) (by simp)
  · have hM1 := at_set (x := .lst [.int a, .int b, .int (c + 1), .int e]) hj
    generalize hm1 : M.set j (.lst [.int a, .int b, .int (c + 1), .int e]) = M1 at hM1
    have hl1 : M1.length = M.length := by rw [← hm1]; simp
    have i1' : idxD (.obj j) (.int 1) M1 = .ok (.int b) M1 := idx_obj (n := 1) hM1 rfl
    have i2' : idxD (.obj j) (.int 2) M1 = .ok (.int (c + 1)) M1 := idx_obj (n := 2) hM1 rfl
    have m1 : binD .Mult (.int 60017) (.int (c + 1)) M1 = .ok (.int (60017 * (c + 1))) M1 := mul_ii (by simp [i64])
    have m2 : binD .Mult (.int 37) (.int (c + 1)) M1 = .ok (.int (37 * (c + 1))) M1 := mul_ii (by simp [i64])
    generalize hs : (b + 60017 * (c + 1)) % 2147483563 = s
    have s0 : 0 ≤ s := by rw [← hs]; exact Int.emod_nonneg _ (by decide)
    have s1 : s < 2147483563 := by rw [← hs]; exact Int.emod_lt_of_pos _ (by decide)
    have m3 : binD .Mult (.int s) (.int (s % 5003 + 40013)) M1 = .ok (.int (s * (s % 5003 + 40013))) M1 := mul_ii (by
      have : i64 s = true := by unfold i64; exact decide_eq_true ⟨by omega, by omega⟩
      rw [this]; rfl)
    generalize ht : (s * (s % 5003 + 40013) + 37 * (c + 1)) % 2147483563 = t
    have hM2 := at_set (M := M1) (x := .lst [.int a, .int t, .int (c + 1), .int e]) (j := j) (by rw [hl1]; exact hj)
    have st := set4_1 (v := t) hM1
    generalize hm2 : M1.set j (.lst [.int a, .int t, .int (c + 1), .int e]) = M2 at hM2 st
    have hl2 : M2.length = M.length := by rw [← hm2]; simp [hl1]
    have i3 : idxD (.obj j) (.int 1) M2 = .ok (.int t) M2 := idx_obj (n := 1) hM2 rfl
    refine ⟨(t / 647) % m, M2, ?_, Int.emod_nonneg _ (by omega), Int.emod_lt_of_pos _ h, hl2, ⟨_, _, _, _, hM2⟩, fun i hi => by rw [← hm2, List.getElem?_set_ne (Ne.symm hi), ← hm1, List.getElem?_set_ne (Ne.symm hi)]⟩
    simp [t__law_draw, start', i0, ha, i2, set4_2 hM, hm1, i1', i2', m1, mod_ii, hs, m2, m3, ht, st, i3, div_ii, mod_ii h]
    exact leave_und (by simp [D.und]) hl2.symm
theorem run_pick {l : List D} (w : W4 M j) (h0 : l ≠ []) (h1 : l.length < 1000) (hu : unds M.length l = true) (hn : 2 ≤ n) : ∃ d M', run P n (.fn "_law_pick") [.obj j, .tup l] M = .ok d M' ∧ d ∈ l ∧ S4 j M M' := by
  obtain ⟨n, rfl⟩ : ∃ m, n = m + 1 + 1 := ⟨n - 2, by omega⟩
  have hp : 0 < l.length := List.length_pos_iff.mpr h0
  obtain ⟨r, M', hr, r0, r1, st⟩ := run_draw (n := n) (M := M) (m := l.length) w (by omega) (by omega)
  obtain ⟨k, rfl⟩ : ∃ k : Nat, r = k := ⟨r.toNat, by omega⟩
  have hk : k < l.length := by omega
  have hi : idxD (.tup l) (.int k) M' = .ok l[k] M' := idx_nat (by simp [hk])
  refine ⟨l[k], M', ?_, List.getElem_mem hk, st⟩
  rw [run_step l__law_pick rfl]
  simp [t__law_pick, start', en_call, en_dfl, d__law_draw, arrange, pick, hr, hi]
  refine leave_und ?_ st.1.symm
  rw [unds_all, List.all_eq_true] at hu
  exact hu _ (List.getElem_mem hk)
end
end Cw

set_option Elab.async false
set_option linter.all false
set_option maxRecDepth 100000
set_option maxHeartbeats 1000000
-- from: k02 k03 k04
/-! RW: the well, the law (well family). -/
namespace Cw
open Ev
open PySem (Str PyData)
def wl1 : SL := .cons (.asg (.var 2) (.bin .Mod (.blt .int (.cons (.bin .Add (.bin .Add (.bin .Mult (.var 2) (.k (.int 50707))) (.bin .Mod (.blt .int (.cons (.var 3) .nil)) (.k (.int 2147483587)))) (.k (.int 9))) .nil)) (.k (.int 2147483563))))
  .nil
def wl2 : SL := .cons (.asg (.var 4) (.ite (.cmp .Lt (.var 1) (.blt .len (.cons (.var 0) .nil))) (.blt .int (.cons (.idx (.var 0) (.var 1)) .nil)) (.k (.int 0))))
  (.cons (.asg (.var 2) (.bin .Mod (.blt .int (.cons (.bin .Add (.bin .Add (.bin .Mult (.var 2) (.k (.int 41))) (.bin .Mult (.bin .Mod (.blt .int (.cons (.var 4) .nil)) (.k (.int 2147483587))) (.k (.int 20047)))) (.k (.int 7))) .nil)) (.k (.int 2147483563))))
  (.cons (.ret (.lst true (.cons (.ite (.or_ (.cmp .Lt (.var 4) (.k (.int 0))) (.cmp .GtE (.var 4) (.bin .Pow (.k (.int 10)) (.k (.int 14))))) (.blt .abs (.cons (.var 4) .nil)) (.k (.int 0))) (.cons (.var 2) (.cons (.k (.int 0)) (.cons (.k (.int 2)) .nil))))))
  .nil))
theorem well_body : t__law_well.body = .cons (.asg (.var 2) (.bin .Add (.k (.int 612049)) (.bin .Mult (.k (.int 8219)) (.var 1))))
  (.cons (.for_ (.var 3) (.val (.sli (.var 0) .none (.some (.k (.int 9))))) wl1) wl2) := rfl
def WInv (a b : D) (M0 : Mem) (i : Nat) (σ : St') (M : Mem) : Prop := M = M0 ∧ ∃ (m : Int) (c : Option D), σ = [some a, some b, some (.int m), c, none]
theorem pow_14 {M : Mem} : binD .Pow (.int 10) (.int 14) M = .ok (.int 100000000000000) M := by simp [binD]
theorem run_well {ns : List Int} {t n : Nat} {M : Mem} : ∃ a b c e : Int, run P (n + 1) (.fn "_law_well") [.rol (ns.map .int), .int t] M = .ok (.obj M.length) (M ++ [.lst [.int a, .int b, .int c, .int e]]) := by
  have sl : ∀ M, sliD (.rol (ns.map .int)) none (some 9) M = .ok (.lst ((ns.take 9).map .int)) M := fun M => by
    have := cutL_to (l := ns.map D.int) (n := 9)
    rw [List.map_take]
    exact congrArg (fun z => Res.ok (D.lst z) M) this
  have m1 : ∀ M, binD .Mult (.int 8219) (.int (t : Int)) M = .ok (.int (8219 * (t : Int))) M := fun M => mul_l (by decide +kernel)
  obtain ⟨σ1, M1, e1, inv⟩ := forL_inv (Inv := WInv (.rol (ns.map .int)) (.int t) M) (Out := WInv (.rol (ns.map .int)) (.int t) M 9) (all := (ns.take 9).map .int) (xs := (ns.take 9).map .int) (σ := [some (.rol (ns.map .int)), some (.int t), some (.int (612049 + 8219 * (t : Int))), none, none]) (M := M)
    (g := fun d σ M => asT (P.en (run P n)) (.var 3) d σ M) (f := fun σ M => exs (P.en (run P n)) wl1 σ M)
    (fun i x σ M' hx inv => by
      obtain ⟨rfl, m, c, rfl⟩ := inv
      have hx := List.mem_of_getElem? hx
      rw [List.mem_map] at hx
      obtain ⟨v, _, rfl⟩ := hx
      have m2 : ∀ M, binD .Mult (.int m) (.int 50707) M = .ok (.int (m * 50707)) M := fun M => mul_r (by decide +kernel)
      have m3 : ∀ M, binD .Mod (.int v) (.int 2147483587) M = .ok (.int (v % 2147483587)) M := fun M => mod_ii (by decide)
      have m4 : ∀ z M, binD .Mod (.int z) (.int 2147483563) M = .ok (.int (z % 2147483563)) M := fun z M => mod_ii (by decide)
      exact ⟨_, _, asT_var, .next [some (.rol (ns.map .int)), some (.int t), some (.int ((m * 50707 + v % 2147483587 + 9) % 2147483563)), some (.int v), none], M', by simp [wl1, m2, m3, m4], .inl ⟨_, rfl, rfl, _, _, rfl⟩⟩)
    (fun σ M' inv => inv) ⟨rfl, _, _, rfl⟩
  obtain ⟨rfl, m, c, rfl⟩ := inv
  obtain ⟨v, hv⟩ : ∃ v : Int, ev (P.en (run P n)) (.ite (.cmp .Lt (.var 1) (.blt .len (.cons (.var 0) .nil))) (.blt .int (.cons (.idx (.var 0) (.var 1)) .nil)) (.k (.int 0))) [some (.rol (ns.map .int)), some (.int t), some (.int m), c, none] M1 = .ok (.int v) M1 := by
    by_cases h : t < ns.length
    · have hi : idxD (.rol (ns.map .int)) (.int (t : Int)) M1 = .ok (.int ns[t]) M1 := idx_natR (by simp [h])
      refine ⟨ns[t], ?_⟩
      have h' : (t : Int) < (ns.length : Int) := by omega
      simp [h', hi, h]
    · have h' : ¬ (t : Int) < (ns.length : Int) := by omega
      exact ⟨0, by simp [h', h]⟩
  have m2 : ∀ M, binD .Mult (.int m) (.int 41) M = .ok (.int (m * 41)) M := fun M => mul_r (by decide +kernel)
  have m3 : ∀ M, binD .Mod (.int v) (.int 2147483587) M = .ok (.int (v % 2147483587)) M := fun M => mod_ii (by decide)
  have m4 : ∀ z M, binD .Mod (.int z) (.int 2147483563) M = .ok (.int (z % 2147483563)) M := fun z M => mod_ii (by decide)
  have m5 : ∀ z M, binD .Mult (.int z) (.int 20047) M = .ok (.int (z * 20047)) M := fun z M => mul_r (by decide +kernel)
  obtain ⟨a, ha⟩ : ∃ a : Int, ev (P.en (run P n)) (.ite (.or_ (.cmp .Lt (.var 4) (.k (.int 0))) (.cmp .GtE (.var 4) (.bin .Pow (.k (.int 10)) (.k (.int 14))))) (.blt .abs (.cons (.var 4) .nil)) (.k (.int 0))) [some (.rol (ns.map .int)), some (.int t), some (.int ((m * 41 + v % 2147483587 * 20047 + 7) % 2147483563)), c, some (.int v)] M1 = .ok (.int a) M1 := by
    by_cases h : v < 0
    · exact ⟨_, by simp [h]; rfl⟩
    · by_cases h2 : 100000000000000 ≤ v
      · exact ⟨_, by simp [h, pow_14, h2]; rfl⟩
      · exact ⟨_, by simp [h, pow_14, h2]; rfl⟩
  refine ⟨a, (m * 41 + v % 2147483587 * 20047 + 7) % 2147483563, 0, 2, ?_⟩
  rw [run_step l__law_well rfl, well_body]
  have N5 : t__law_well.N.length = 5 := rfl
  have md : t__law_well.mode = .keep := rfl
  simp only [asT_var, List.map_take] at e1
  have st : exs (P.en (run P n)) wl2 [some (.rol (ns.map .int)), some (.int t), some (.int m), c, none] M1 = .ok (.ret (.obj M1.length)) (M1 ++ [.lst [.int a, .int ((m * 41 + v % 2147483587 * 20047 + 7) % 2147483563), .int 0, .int 2]]) := by
    simp only [wl2, exs_cons, ex_asg, hv, Res.bind_ok, asT_var, seqF_next]
    simp only [ex_ret, ev_lst, evs_cons]
    simp [-ev_ite, m2, m3, m4, m5, ha, LIM]
  simp [N5, md, start', m1, sl, e1, st]
theorem max_ii {call : D → List D → Mem → Res D} {x y : Int} {M : Mem} : bltD call .max [.int x, .int y] M = .ok (.int (if y > x then y else x)) M := rfl
theorem min_ii {call : D → List D → Mem → Res D} {x y : Int} {M : Mem} : bltD call .min [.int x, .int y] M = .ok (.int (if y < x then y else x)) M := rfl
theorem wl_new {M : Mem} {a b c e : Int} : W4 (M ++ [.lst [.int a, .int b, .int c, .int e]]) M.length := ⟨a, b, c, e, by simp⟩
end Cw

set_option Elab.async false
set_option linter.all false
set_option maxRecDepth 100000
set_option maxHeartbeats 1000000
/-! ThJ: things of any kind; which of them are values. -/
namespace Ev
section
variable {w : Option Nat} {all : List D} {g : D → St' → Mem → Res St'} {f : St' → Mem → Res Flow'} {M : Mem}
/-- a walk that ends at the first item of which p says no -/
theorem forL_find {Inv : St' → Prop} {p : D → Bool} {d : D} {xs : List D} : ∀ {σ : St'}, (∀ x ∈ xs, ∀ σ, Inv σ → ∃ σ1, g x σ M = .ok σ1 M ∧ (p x = true → ∃ σ2, f σ1 M = .ok (.next σ2) M ∧ Inv σ2) ∧ (p x = false → f σ1 M = .ok (.ret d) M)) → Inv σ →
    (xs.all p = true → ∃ σ', forL none all g f xs σ M = .ok (.next σ') M ∧ Inv σ') ∧ (xs.all p = false → forL none all g f xs σ M = .ok (.ret d) M) := by
  induction xs with
  | nil => intro σ _ h0; exact ⟨fun _ => ⟨σ, forW_nil chkW_none, h0⟩, fun h => by simp at h⟩
  | cons x r ih =>
    intro σ step h0
    obtain ⟨σ1, e1, y, n⟩ := step x List.mem_cons_self σ h0
    have hr := fun σ => ih (σ := σ) fun x hx => step x (List.mem_cons_of_mem _ hx)
    cases hp : p x with
    | true =>
      obtain ⟨σ2, e2, i2⟩ := y hp
      obtain ⟨a, b⟩ := hr σ2 i2
      simp only [List.all_cons, hp, Bool.true_and]
      refine ⟨fun h => ?_, fun h => ?_⟩
      · obtain ⟨σ3, e3, i3⟩ := a h
        refine ⟨σ3, ?_, i3⟩
        rw [forW_cons chkW_none, e1]; simp only [Res.bind_ok]; rw [e2]; simp only [Res.bind_ok, loopK]; exact e3
      · rw [forW_cons chkW_none, e1]; simp only [Res.bind_ok]; rw [e2]; simp only [Res.bind_ok, loopK]; exact b h
    | false =>
      simp only [List.all_cons, hp, Bool.false_and]
      refine ⟨fun h => (by cases h), fun _ => ?_⟩
      rw [forW_cons chkW_none, e1]; simp only [Res.bind_ok]; rw [n hp]; simp only [Res.bind_ok, loopK]
end
end Ev
namespace Cw
open Ev
open PySem (Str PyData)
mutual
/-- things as the laws draw them -/
def tame : D → Bool
  | .non => true
  | .bl _ => true
  | .int _ => true
  | .str s => PyData.strOk s
  | .tup l => decide (l.length ≤ 500000) && tames l
  | .lst l => decide (l.length ≤ 500000) && tames l
  | .dct l => l.isEmpty
  | _ => false
def tames : List D → Bool
  | [] => true
  | d :: r => tame d && tames r
end
theorem tames_mem : ∀ {l : List D}, tames l = true → ∀ d ∈ l, tame d = true
  | [], _, _, h => by cases h
  | x :: r, h, d, hd => by
    simp only [tames, Bool.and_eq_true] at h
    rcases List.mem_cons.mp hd with rfl | hd
    · exact h.1
    · exact tames_mem h.2 d hd
theorem tames_of : ∀ {l : List D}, (∀ d ∈ l, tame d = true) → tames l = true
  | [], _ => by simp [tames]
  | x :: r, h => by simp only [tames, h x List.mem_cons_self, tames_of fun d hd => h d (List.mem_cons_of_mem _ hd), Bool.and_self]
theorem tame_tup {l : List D} : tame (.tup l) = true ↔ l.length ≤ 500000 ∧ ∀ d ∈ l, tame d = true := by
  simp only [tame, Bool.and_eq_true, decide_eq_true_eq]
  exact ⟨fun h => ⟨h.1, tames_mem h.2⟩, fun h => ⟨h.1, tames_of h.2⟩⟩
theorem tame_lst {l : List D} : tame (.lst l) = true ↔ l.length ≤ 500000 ∧ ∀ d ∈ l, tame d = true := by
  simp only [tame, Bool.and_eq_true, decide_eq_true_eq]
  exact ⟨fun h => ⟨h.1, tames_mem h.2⟩, fun h => ⟨h.1, tames_of h.2⟩⟩
mutual
theorem tame_und {m : Nat} : ∀ {d : D}, tame d = true → d.und m = true
  | .non, _ => rfl
  | .bl _, _ => rfl
  | .int _, _ => rfl
  | .str _, _ => rfl
  | .tup l, h => by simp only [tame, Bool.and_eq_true] at h; simp only [D.und]; exact tames_unds h.2
  | .lst l, h => by simp only [tame, Bool.and_eq_true] at h; simp only [D.und]; exact tames_unds h.2
  | .dct l, h => by
    simp only [tame, List.isEmpty_iff] at h; subst h; simp [D.und, unde]
  | .wtp _, h => by simp [tame] at h
  | .rol _, h => by simp [tame] at h
  | .obj _, h => by simp [tame] at h
  | .fn _, h => by simp [tame] at h
  | .ty _, h => by simp [tame] at h
theorem tames_unds {m : Nat} : ∀ {l : List D}, tames l = true → unds m l = true
  | [], _ => by simp [unds]
  | d :: r, h => by simp only [tames, Bool.and_eq_true] at h; simp only [unds, tame_und h.1, tames_unds h.2, Bool.and_self]
end
theorem tame_encP : ∀ p : Pv, tame (encP p) = true
  | .unit => by simp [encP, tame, tames]
  | .num _ => by simp [encP, tame]
  | .pair a b => by simp [encP, tame, tames, tame_encP a, tame_encP b]
  | .left a => by simp [encP, tame, tames, tame_encP a]
  | .right a => by simp [encP, tame, tames, tame_encP a]
theorem tame_encE (p : Pv × Int) : tame (encE p) = true := by simp [encE, tame, tames, tame_encP]
theorem tame_enc : ∀ k : Kd, tame (enc k) = true
  | .unit => by simp [enc, tame, tames]
  | .num => by simp [enc, tame, tames]
  | .bag a => by simp [enc, tame, tames, tame_enc a]
  | .pair a b => by simp [enc, tame, tames, tame_enc a, tame_enc b]
  | .either a b => by simp [enc, tame, tames, tame_enc a, tame_enc b]
  | .fn a b => by simp [enc, tame, tames, tame_enc a, tame_enc b]
theorem tame_encV : ∀ {v : Vl}, ms v ≤ 1000000 → tame (encV v) = true
  | .unit, _ => by simp [encV, tame, tames]
  | .num _, _ => by simp [encV, tame]
  | .pair a b, h => by simp only [ms] at h; simp [encV, tame, tames, tame_encV (v := a) (by omega), tame_encV (v := b) (by omega)]
  | .left a, h => by simp only [ms] at h; simp [encV, tame, tames, tame_encV (v := a) (by omega)]
  | .right a, h => by simp only [ms] at h; simp [encV, tame, tames, tame_encV (v := a) (by omega)]
  | .bag l, h => by
    simp only [ms] at h
    have := mB_len (a := l)
    simp only [encV]
    rw [tame_tup]
    refine ⟨by simp; omega, fun d hd => ?_⟩
    obtain ⟨p, _, rfl⟩ := List.mem_map.mp hd
    exact tame_encE p

/-! how long tuples are -/
mutual
def tm (N : Nat) : D → Bool
  | .non => true
  | .bl _ => true
  | .int _ => true
  | .str s => PyData.strOk s
  | .tup l => decide (l.length ≤ N) && tms N l
  | .lst l => decide (l.length ≤ N) && tms N l
  | .dct l => l.isEmpty
  | _ => false
def tms (N : Nat) : List D → Bool
  | [] => true
  | d :: r => tm N d && tms N r
end
theorem tms_mem {N : Nat} : ∀ {l : List D}, tms N l = true → ∀ d ∈ l, tm N d = true
  | [], _, _, h => by cases h
  | x :: r, h, d, hd => by
    simp only [tms, Bool.and_eq_true] at h
    rcases List.mem_cons.mp hd with rfl | hd
    · exact h.1
    · exact tms_mem h.2 d hd
theorem tms_of {N : Nat} : ∀ {l : List D}, (∀ d ∈ l, tm N d = true) → tms N l = true
  | [], _ => by simp [tms]
  | x :: r, h => by simp only [tms, h x List.mem_cons_self, tms_of fun d hd => h d (List.mem_cons_of_mem _ hd), Bool.and_self]
theorem tm_tup {N : Nat} {l : List D} : tm N (.tup l) = true ↔ l.length ≤ N ∧ ∀ d ∈ l, tm N d = true := by
  simp only [tm, Bool.and_eq_true, decide_eq_true_eq]
  exact ⟨fun h => ⟨h.1, tms_mem h.2⟩, fun h => ⟨h.1, tms_of h.2⟩⟩
theorem tm_lst {N : Nat} {l : List D} : tm N (.lst l) = true ↔ l.length ≤ N ∧ ∀ d ∈ l, tm N d = true := by
  simp only [tm, Bool.and_eq_true, decide_eq_true_eq]
  exact ⟨fun h => ⟨h.1, tms_mem h.2⟩, fun h => ⟨h.1, tms_of h.2⟩⟩
mutual
theorem tm_mono {N N' : Nat} (h : N ≤ N') : ∀ {d : D}, tm N d = true → tm N' d = true
  | .non, _ => rfl
  | .bl _, _ => rfl
  | .int _, _ => rfl
  | .str _, k => k
  | .tup l, k => by simp only [tm, Bool.and_eq_true, decide_eq_true_eq] at *; exact ⟨by omega, tms_mono h k.2⟩
  | .lst l, k => by simp only [tm, Bool.and_eq_true, decide_eq_true_eq] at *; exact ⟨by omega, tms_mono h k.2⟩
  | .dct l, k => k
  | .wtp _, h => by simp [tm] at h
  | .rol _, h => by simp [tm] at h
  | .obj _, h => by simp [tm] at h
  | .fn _, h => by simp [tm] at h
  | .ty _, h => by simp [tm] at h
theorem tms_mono {N N' : Nat} (h : N ≤ N') : ∀ {l : List D}, tms N l = true → tms N' l = true
  | [], _ => by simp [tms]
  | d :: r, k => by simp only [tms, Bool.and_eq_true] at *; exact ⟨tm_mono h k.1, tms_mono h k.2⟩
end
mutual
theorem tm_tame {N : Nat} (h : N ≤ 500000) : ∀ {d : D}, tm N d = true → tame d = true
  | .non, _ => rfl
  | .bl _, _ => rfl
  | .int _, _ => rfl
  | .str _, k => k
  | .tup l, k => by simp only [tm, tame, Bool.and_eq_true, decide_eq_true_eq] at *; exact ⟨by omega, tms_tame h k.2⟩
  | .lst l, k => by simp only [tm, tame, Bool.and_eq_true, decide_eq_true_eq] at *; exact ⟨by omega, tms_tame h k.2⟩
  | .dct l, k => k
  | .wtp _, h => by simp [tm] at h
  | .rol _, h => by simp [tm] at h
  | .obj _, h => by simp [tm] at h
  | .fn _, h => by simp [tm] at h
  | .ty _, h => by simp [tm] at h
theorem tms_tame {N : Nat} (h : N ≤ 500000) : ∀ {l : List D}, tms N l = true → tames l = true
  | [], _ => by simp [tames]
  | d :: r, k => by simp only [tms, tames, Bool.and_eq_true] at *; exact ⟨tm_tame h k.1, tms_tame h k.2⟩
end
theorem tm_encP {N : Nat} (hN : 3 ≤ N) : ∀ p : Pv, tm N (encP p) = true
  | .unit => by simp [encP, tm, tms]
  | .num _ => by simp [encP, tm]
  | .pair a b => by simp [encP, tm, tms, tm_encP hN a, tm_encP hN b, hN]
  | .left a => by simp [encP, tm, tms, tm_encP hN a]; omega
  | .right a => by simp [encP, tm, tms, tm_encP hN a]; omega
theorem tm_encE {N : Nat} (hN : 3 ≤ N) (p : Pv × Int) : tm N (encE p) = true := by simp [encE, tm, tms, tm_encP hN]; omega
theorem tm_encV {N : Nat} (hN : 3 ≤ N) : ∀ {v : Vl}, ms v ≤ N → tm N (encV v) = true
  | .unit, _ => by simp [encV, tm, tms]
  | .num _, _ => by simp [encV, tm]
  | .pair a b, h => by simp only [ms] at h; simp [encV, tm, tms, tm_encV hN (v := a) (by omega), tm_encV hN (v := b) (by omega), hN]
  | .left a, h => by simp only [ms] at h; simp [encV, tm, tms, tm_encV hN (v := a) (by omega)]; omega
  | .right a, h => by simp only [ms] at h; simp [encV, tm, tms, tm_encV hN (v := a) (by omega)]; omega
  | .bag l, h => by
    simp only [ms] at h
    have := mB_len (a := l)
    simp only [encV]
    rw [tm_tup]
    refine ⟨by simp; omega, fun d hd => ?_⟩
    obtain ⟨p, _, rfl⟩ := List.mem_map.mp hd
    exact tm_encE hN p

/-! what isinstance tells of them -/
def isInt : D → Bool
  | .int _ => true
  | _ => false
def isStr : D → Bool
  | .str _ => true
  | _ => false
def isBl : D → Bool
  | .bl _ => true
  | _ => false
theorem isi_T {d : D} {M : Mem} {call : D → List D → Mem → Res D} (h : tame d = true) : bltD call .isi [d, .ty "tuple"] M = .ok (.bl d.isTup) M := by
  cases d <;> first | (simp [tame] at h; done) | exact isi_of (by simp [isiD, tyOf, D.isTup])
theorem isi_S {d : D} {M : Mem} {call : D → List D → Mem → Res D} (h : tame d = true) : bltD call .isi [d, .ty "str"] M = .ok (.bl (isStr d)) M := by
  cases d <;> first | (simp [tame] at h; done) | exact isi_of (by simp [isiD, tyOf, isStr])
theorem isi_I {d : D} {M : Mem} {call : D → List D → Mem → Res D} (h : tame d = true) : bltD call .isi [d, .ty "int"] M = .ok (.bl (isInt d || isBl d)) M := by
  cases d <;> first | (simp [tame] at h; done) | exact isi_of (by simp [isiD, tyOf, isInt, isBl])
theorem isi_B {d : D} {M : Mem} {call : D → List D → Mem → Res D} (h : tame d = true) : bltD call .isi [d, .ty "bool"] M = .ok (.bl (isBl d)) M := by
  cases d <;> first | (simp [tame] at h; done) | exact isi_of (by simp [isiD, tyOf, isBl])
theorem isTup_iff {d : D} : d.isTup = true ↔ ∃ l, d = .tup l := by cases d <;> simp [D.isTup]
theorem isStr_iff {d : D} : isStr d = true ↔ ∃ s, d = .str s := by cases d <;> simp [isStr]
theorem isInt_iff {d : D} : isInt d = true ↔ ∃ i, d = .int i := by cases d <;> simp [isInt]

/-! values -/
def Val (k : Kd) (d : D) : Prop := ∃ v, has k v ∧ d = encV v
noncomputable def vb (k : Kd) (d : D) : Bool := @decide (Val k d) (Classical.propDecidable _)
theorem vb_iff {k : Kd} {d : D} : vb k d = true ↔ Val k d := @decide_eq_true_iff (Val k d) (Classical.propDecidable _)
theorem vb_no {k : Kd} {d : D} (h : ¬ Val k d) : vb k d = false := by
  cases e : vb k d with
  | false => rfl
  | true => exact absurd (vb_iff.mp e) h
theorem vb_eq {k : Kd} {d : D} {b : Bool} (h : Val k d ↔ b = true) : vb k d = b := by
  cases b with
  | true => exact vb_iff.mpr (h.mpr rfl)
  | false => exact vb_no fun q => by have := h.mp q; cases this
theorem vb_enc {k : Kd} {v : Vl} (h : has k v) : vb k (encV v) = true := vb_iff.mpr ⟨v, h, rfl⟩
theorem vb_num {d : D} : vb .num d = isInt d := vb_eq (by
  rw [isInt_iff]
  constructor
  · rintro ⟨v, h, rfl⟩; obtain ⟨i, rfl⟩ := has_num h; exact ⟨i, rfl⟩
  · rintro ⟨i, rfl⟩; exact ⟨.num i, trivial, rfl⟩)
theorem vb_unit {l : List D} : vb .unit (.tup l) = l.isEmpty := vb_eq (by
  rw [List.isEmpty_iff]
  constructor
  · rintro ⟨v, h, e⟩; rw [has_unit h] at e; simpa [encV] using e
  · rintro rfl; exact ⟨.unit, trivial, rfl⟩)
/-- what is no tuple is a number, or no value -/
theorem vb_notup {k : Kd} {d : D} (hk : k ≠ .num) (h : d.isTup = false) : vb k d = false := vb_no (by
  rintro ⟨v, hv, rfl⟩
  cases k with
  | num => exact hk rfl
  | unit => rw [has_unit hv] at h; simp [encV, D.isTup] at h
  | bag a => obtain ⟨l, rfl, _⟩ := has_bag hv; simp [encV, D.isTup] at h
  | pair a b => obtain ⟨x, y, rfl, _⟩ := has_pair hv; simp [encV, D.isTup] at h
  | either a b => rcases has_either hv with ⟨x, rfl, _⟩ | ⟨x, rfl, _⟩ <;> simp [encV, D.isTup] at h
  | fn a b => cases v <;> simp only [has] at hv)
theorem vb_fn {a b : Kd} {d : D} : vb (.fn a b) d = false := vb_no (by
  rintro ⟨v, hv, _⟩; cases v <;> simp only [has] at hv)
theorem vb_pair {k l : Kd} {a b : D} : vb (.pair k l) (.tup [.str "pair", a, b]) = (vb k a && vb l b) := vb_eq (by
  rw [Bool.and_eq_true, vb_iff, vb_iff]
  constructor
  · rintro ⟨v, hv, e⟩
    obtain ⟨x, y, rfl, h1, h2⟩ := has_pair hv
    simp [encV] at e
    exact ⟨⟨x, h1, e.1⟩, ⟨y, h2, e.2⟩⟩
  · rintro ⟨⟨x, h1, rfl⟩, ⟨y, h2, rfl⟩⟩
    exact ⟨.pair x y, ⟨h1, h2⟩, rfl⟩)
theorem vb_pair_no {k l : Kd} {d : D} (h : ∀ a b, d ≠ .tup [.str "pair", a, b]) : vb (.pair k l) d = false := vb_no (by
  rintro ⟨v, hv, e⟩
  obtain ⟨x, y, rfl, h1, h2⟩ := has_pair hv
  exact h _ _ e)
theorem vb_left {k l : Kd} {a : D} : vb (.either k l) (.tup [.str "left", a]) = vb k a := vb_eq (by
  rw [vb_iff]
  constructor
  · rintro ⟨v, hv, e⟩
    rcases has_either hv with ⟨x, rfl, h1⟩ | ⟨x, rfl, h1⟩ <;> simp [encV] at e
    exact ⟨x, h1, e⟩
  · rintro ⟨x, h1, rfl⟩; exact ⟨.left x, h1, rfl⟩)
theorem vb_right {k l : Kd} {a : D} : vb (.either k l) (.tup [.str "right", a]) = vb l a := vb_eq (by
  rw [vb_iff]
  constructor
  · rintro ⟨v, hv, e⟩
    rcases has_either hv with ⟨x, rfl, h1⟩ | ⟨x, rfl, h1⟩ <;> simp [encV] at e
    exact ⟨x, h1, e⟩
  · rintro ⟨x, h1, rfl⟩; exact ⟨.right x, h1, rfl⟩)
theorem vb_either_no {k l : Kd} {d : D} (h : ∀ a, d ≠ .tup [.str "left", a]) (h' : ∀ a, d ≠ .tup [.str "right", a]) : vb (.either k l) d = false := vb_no (by
  rintro ⟨v, hv, e⟩
  rcases has_either hv with ⟨x, rfl, h1⟩ | ⟨x, rfl, h1⟩
  · exact h _ e
  · exact h' _ e)
/-- plain values -/
theorem val_pl {k : Kd} {d : D} (hk : k.pl = true) : Val k d ↔ ∃ p, hasP k p = true ∧ d = encP p := by
  constructor
  · rintro ⟨v, hv, rfl⟩
    obtain ⟨p, hp, rfl⟩ := emb_has hk hv
    exact ⟨p, hp, enc_emb p⟩
  · rintro ⟨p, hp, rfl⟩
    exact ⟨emb p, has_emb hp, (enc_emb p).symm⟩
/-- an element of a bag -/
def Cnt (k : Kd) (d : D) : Prop := ∃ p : Pv × Int, hasP k p.1 = true ∧ d = encE p
noncomputable def cb (k : Kd) (d : D) : Bool := @decide (Cnt k d) (Classical.propDecidable _)
theorem cb_iff {k : Kd} {d : D} : cb k d = true ↔ Cnt k d := @decide_eq_true_iff (Cnt k d) (Classical.propDecidable _)
theorem cb_eq {k : Kd} {d : D} {b : Bool} (h : Cnt k d ↔ b = true) : cb k d = b := by
  cases e : cb k d with
  | true => exact (h.mp (cb_iff.mp e)).symm
  | false =>
    cases b with
    | false => rfl
    | true => rw [cb_iff.mpr (h.mpr rfl)] at e; cases e
theorem cb_two {k : Kd} {x y : D} (hk : k.pl = true) : cb k (.tup [x, y]) = (vb k x && isInt y) := cb_eq (by
  rw [Bool.and_eq_true, vb_iff, val_pl hk, isInt_iff]
  constructor
  · rintro ⟨p, hp, e⟩
    simp [encE] at e
    exact ⟨⟨p.1, hp, e.1⟩, ⟨p.2, e.2⟩⟩
  · rintro ⟨⟨p, hp, rfl⟩, ⟨i, rfl⟩⟩
    exact ⟨(p, i), hp, rfl⟩)
theorem cb_no {k : Kd} {d : D} (h : ∀ x y, d ≠ .tup [x, y]) : cb k d = false := cb_eq (by
  constructor
  · rintro ⟨p, hp, e⟩; exact absurd e (h _ _)
  · intro h; cases h)
def nzD : D → Bool
  | .tup [_, .int i] => decide (i ≠ 0)
  | _ => false
/-- an element that may stand in a bag -/
noncomputable def eb (k : Kd) (d : D) : Bool := cb k d && nzD d
theorem eb_all {k : Kd} : ∀ {l : List D}, l.all (eb k) = true → ∃ b : Bg, l = b.map encE ∧ typed k b ∧ ∀ p ∈ b, p.2 ≠ 0
  | [], _ => ⟨[], rfl, fun _ h => (nomatch h), fun _ h => (nomatch h)⟩
  | d :: r, h => by
    simp only [List.all_cons, Bool.and_eq_true] at h
    obtain ⟨b, rfl, t, z⟩ := eb_all h.2
    have h1 := h.1
    simp only [eb, Bool.and_eq_true] at h1
    obtain ⟨p, hp, rfl⟩ := cb_iff.mp h1.1
    refine ⟨p :: b, rfl, fun q hq => ?_, fun q hq => ?_⟩
    · rcases List.mem_cons.mp hq with rfl | hq
      · exact hp
      · exact t q hq
    · rcases List.mem_cons.mp hq with rfl | hq
      · have := h1.2; simpa [encE, nzD] using this
      · exact z q hq
theorem eb_of {k : Kd} {p : Pv × Int} (h : hasP k p.1 = true) (z : p.2 ≠ 0) : eb k (encE p) = true := by
  simp only [eb, Bool.and_eq_true]
  exact ⟨cb_iff.mpr ⟨p, h, rfl⟩, by simp [encE, nzD, z]⟩
theorem encE_inj {a b : Pv × Int} (h : encE a = encE b) : a = b := by
  simp only [encE, D.tup.injEq, List.cons.injEq, D.int.injEq, and_true] at h
  exact Prod.ext (encP_inj h.1) h.2
theorem encEs_inj : ∀ {a b : Bg}, a.map encE = b.map encE → a = b
  | [], [], _ => rfl
  | [], _ :: _, h => by simp at h
  | _ :: _, [], h => by simp at h
  | x :: a, y :: b, h => by
    simp only [List.map_cons, List.cons.injEq] at h
    rw [encE_inj h.1, encEs_inj h.2]
/-- each ahead of the next one -/
def asc : Bg → Bool
  | [] => true
  | [_] => true
  | p :: q :: r => plt p.1 q.1 && asc (q :: r)
theorem asc_pw : ∀ {b : Bg}, asc b = true ↔ b.Pairwise fun p q => plt p.1 q.1 = true
  | [] => by simp [asc]
  | [_] => by simp [asc]
  | p :: q :: r => by
    simp only [asc, Bool.and_eq_true]
    rw [asc_pw (b := q :: r), List.pairwise_cons (a := p)]
    constructor
    · rintro ⟨h1, h2⟩
      refine ⟨fun x hx => ?_, h2⟩
      rcases List.mem_cons.mp hx with rfl | hx
      · exact h1
      · exact plt_trans h1 ((List.pairwise_cons.mp h2).1 x hx)
    · rintro ⟨h1, h2⟩
      exact ⟨h1 q List.mem_cons_self, h2⟩
theorem vb_bag {k : Kd} {b : Bg} (t : typed k b) (z : ∀ p ∈ b, p.2 ≠ 0) : vb (.bag k) (.tup (b.map encE)) = asc b := vb_eq (by
  rw [asc_pw]
  constructor
  · rintro ⟨v, hv, e⟩
    obtain ⟨l, rfl, hl⟩ := has_bag hv
    simp only [encV, D.tup.injEq] at e
    rw [encEs_inj e]; exact hl.st
  · intro h
    exact ⟨.bag b, ⟨t, z, h⟩, rfl⟩)
theorem vb_bag_no {k : Kd} {l : List D} (h : l.all (eb k) = false) : vb (.bag k) (.tup l) = false := vb_no (by
  rintro ⟨v, hv, e⟩
  obtain ⟨b, rfl, hb⟩ := has_bag hv
  simp only [encV, D.tup.injEq] at e
  subst e
  have : (b.map encE).all (eb k) = true := by
    rw [List.all_eq_true]
    intro x hx
    obtain ⟨p, hp, rfl⟩ := List.mem_map.mp hx
    exact eb_of (hb.ty p hp) (hb.nz p hp)
  rw [h] at this; cases this)
/-- the same by indexes -/
theorem asc_range : ∀ {b : Bg}, (List.range (b.length - 1)).all (fun i => match b[i]?, b[i + 1]? with
    | some p, some q => plt p.1 q.1
    | _, _ => true) = asc b
  | [] => rfl
  | [_] => rfl
  | p :: q :: r => by
    have ih := asc_range (b := q :: r)
    simp only [List.length_cons, Nat.add_sub_cancel] at ih ⊢
    rw [List.range_succ_eq_map, List.all_cons, List.all_map]
    simp only [asc, List.getElem?_cons_zero, List.getElem?_cons_succ]
    rw [← ih]
    congr 1
end Cw

set_option Elab.async false
set_option linter.all false
set_option maxRecDepth 100000
set_option maxHeartbeats 1000000
/-! ThK: bags made by places: rows of values in order. -/
namespace Ev
section
variable {σ : St'} {M : Mem} {all : List D} {w : Option Nat} {ft : D → St' → Mem → Res St'} {fp : St' → Mem → Res Bool} {fe : St' → Mem → Res D}
/-- a comprehension over a cell that stays: each item gives a value or is passed over -/
theorem compL_fmW (hw : chkW w all M = true) {β : Type} {h φ : β → D} {ψ : β → Bool} {l : List β} : ∀ {acc : List D}, (∀ b ∈ l, ∃ σ', ft (h b) σ M = .ok σ' M ∧ fp σ' M = .ok (ψ b) M ∧ (ψ b = true → fe σ' M = .ok (φ b) M)) → acc.length + l.length ≤ LIM →
    compL w all ft fp fe σ (l.map h) acc M = .ok (acc ++ (l.filter ψ).map φ) M := by
  induction l with
  | nil => intro acc _ _; simp only [List.map_nil, compL, hw, if_true, List.filter_nil, List.append_nil]
  | cons b r ih =>
    intro acc hs hl
    obtain ⟨σ', h1, h2, h3⟩ := hs b List.mem_cons_self
    simp only [List.length_cons] at hl
    have hr := fun x hx => hs x (List.mem_cons_of_mem _ hx)
    simp only [List.map_cons, compL, hw, if_true, h1, Res.bind_ok, h2]
    cases e : ψ b with
    | true =>
      simp only [h3 e, Res.bind_ok]
      rw [if_pos (by omega), ih hr (by simp; omega), List.filter_cons_of_pos (by simp [e])]
      simp
    | false =>
      dsimp only
      rw [ih hr (by omega), List.filter_cons_of_neg (by simp [e])]
theorem compL_mapW (hw : chkW w all M = true) {β : Type} {h φ : β → D} {l : List β} {acc : List D} (hs : ∀ b ∈ l, ∃ σ', ft (h b) σ M = .ok σ' M ∧ fp σ' M = .ok true M ∧ fe σ' M = .ok (φ b) M) (hl : acc.length + l.length ≤ LIM) :
    compL w all ft fp fe σ (l.map h) acc M = .ok (acc ++ l.map φ) M := by
  rw [compL_fmW (ψ := fun _ => true) hw (fun b hb => let ⟨σ', a, b, c⟩ := hs b hb; ⟨σ', a, b, fun _ => c⟩) hl, List.filter_eq_self.mpr fun _ _ => rfl]
end
end Ev
namespace Cw
open Ev
open PySem (Str PyData)
/-- the order as - 1, 0, 1 -/
def sgn (a b : Pv) : Int := if a = b then 0 else if plt a b then -1 else 1
theorem sgn_refl (a : Pv) : sgn a a = 0 := by simp [sgn]
theorem sgn_eq {a b : Pv} : sgn a b = 0 ↔ a = b := by
  unfold sgn; split
  · rename_i h; simp [h]
  · rename_i h; split <;> simp [h]
theorem sgn_lt {a b : Pv} : sgn a b = -1 ↔ plt a b = true := by
  unfold sgn; split
  · rename_i h; subst h; rw [plt_irrefl]; simp
  · split <;> rename_i h <;> simp [h]
theorem sgn_neg {k : Kd} {a b : Pv} (ha : hasP k a = true) (hb : hasP k b = true) : 0 - sgn a b = sgn b a := by
  unfold sgn
  by_cases h : a = b
  · subst h; simp
  · have h' : ¬ b = a := fun e => h e.symm
    rw [if_neg h, if_neg h']
    cases e : plt a b with
    | true => rw [plt_asymm e]; rfl
    | false =>
      cases e2 : plt b a with
      | true => rfl
      | false => exact absurd (plt_total ha hb e e2) h
section
open PySem PySem.W PyProof.Rows
theorem lt_all {x y : PyData} {xs ys : List PyData} (h : pur x = true) (k : pur y = true) (c : cm x y = true) : lexLt itemOrd (keyToksAll (x :: xs)) (keyToksAll (y :: ys)) = if PyData.eqv x y = true then lexLt itemOrd (keyToksAll xs) (keyToksAll ys) else dataLt x y := by
  cases q : PyData.eqv x y with
  | false => rw [if_neg (by simp)]; exact lt_no h k c q
  | true => rw [if_pos rfl, eqv_pur h k q, lt_yes]
theorem lt_last {k : Kd} {a b : Pv} (ha : hasP k a = true) (hb : hasP k b = true) : lexLt itemOrd (keyToksAll [pyP a]) (keyToksAll [pyP b]) = plt a b := by
  rw [lt_all (pur_pyP a) (pur_pyP b) (cm_has ha hb), eqv_pyP]
  by_cases e : a = b
  · subst e
    rw [if_pos (by simp), plt_irrefl]
    exact lex_irrefl _
  · rw [if_neg (by simpa using e)]; rfl
theorem plt_pair {k l : Kd} {a b c d : Pv} (ha : hasP k a = true) (hc : hasP k c = true) (hb : hasP l b = true) (hd : hasP l d = true) : plt (.pair a b) (.pair c d) = if a = c then plt b d else plt a c := by
  show dataLt (.tuple _) (.tuple _) = _
  rw [dataLt_tuple, lt_yes, lt_all (pur_pyP a) (pur_pyP c) (cm_has ha hc), eqv_pyP]
  by_cases e : a = c
  · subst e; rw [if_pos (by simp), if_pos rfl, lt_last hb hd]
  · rw [if_neg (by simpa using e), if_neg e]; rfl
theorem plt_left {k : Kd} {a b : Pv} (ha : hasP k a = true) (hb : hasP k b = true) : plt (.left a) (.left b) = plt a b := by
  show dataLt (.tuple _) (.tuple _) = _
  rw [dataLt_tuple, lt_yes, lt_last ha hb]
theorem plt_right {k : Kd} {a b : Pv} (ha : hasP k a = true) (hb : hasP k b = true) : plt (.right a) (.right b) = plt a b := by
  show dataLt (.tuple _) (.tuple _) = _
  rw [dataLt_tuple, lt_yes, lt_last ha hb]
theorem plt_lr {a b : Pv} : plt (.left a) (.right b) = true := by
  show dataLt (.tuple _) (.tuple _) = _
  rw [dataLt_tuple, lt_all (by simp [pur]) (by simp [pur]) (by simp [cm]), if_neg (by simp [PyData.eqv])]
  rw [dataLt_str]; decide +kernel
theorem plt_rl {a b : Pv} : plt (.right a) (.left b) = false := by
  show dataLt (.tuple _) (.tuple _) = _
  rw [dataLt_tuple, lt_all (by simp [pur]) (by simp [pur]) (by simp [cm]), if_neg (by simp [PyData.eqv])]
  rw [dataLt_str]; decide +kernel
theorem plt_num {i j : Int} : plt (.num i) (.num j) = decide (i < j) := by
  show dataLt (.int i) (.int j) = _
  rw [dataLt_int]
theorem sgn_num {i j : Int} : sgn (.num i) (.num j) = (if j < i then 1 else 0) - (if i < j then 1 else 0) := by
  unfold sgn
  rw [plt_num]
  by_cases e : i = j
  · subst e; simp
  · rw [if_neg (by simpa using e)]
    by_cases l : i < j
    · simp [l]; omega
    · have : j < i := by omega
      simp [l, this]
theorem sgn_pair {k l : Kd} {a b c d : Pv} (ha : hasP k a = true) (hc : hasP k c = true) (hb : hasP l b = true) (hd : hasP l d = true) : sgn (.pair a b) (.pair c d) = if sgn a c ≠ 0 then sgn a c else sgn b d := by
  by_cases e : a = c
  · subst e
    rw [if_neg (by simp [sgn_refl])]
    unfold sgn
    rw [plt_pair ha hc hb hd, if_pos rfl]
    by_cases e2 : b = d
    · subst e2; simp
    · rw [if_neg (by simpa using e2), if_neg e2]
  · rw [if_pos (fun q => e (sgn_eq.mp q))]
    unfold sgn
    rw [plt_pair ha hc hb hd, if_neg e, if_neg (by simpa using fun q => absurd q e), if_neg e]
theorem sgn_left {k : Kd} {a b : Pv} (ha : hasP k a = true) (hb : hasP k b = true) : sgn (.left a) (.left b) = sgn a b := by
  unfold sgn; rw [plt_left ha hb]; simp
theorem sgn_right {k : Kd} {a b : Pv} (ha : hasP k a = true) (hb : hasP k b = true) : sgn (.right a) (.right b) = sgn a b := by
  unfold sgn; rw [plt_right ha hb]; simp
theorem sgn_lr {a b : Pv} : sgn (.left a) (.right b) = -1 := by unfold sgn; rw [plt_lr]; simp
theorem sgn_rl {a b : Pv} : sgn (.right a) (.left b) = 1 := by unfold sgn; rw [plt_rl]; simp
end
/-- a value put into a row in order, its times added -/
def putR (x : Pv) (t : Int) : Bg → Bg
  | [] => [(x, t)]
  | p :: r => if p.1 = x then (x, p.2 + t) :: r else if plt p.1 x then p :: putR x t r else (x, t) :: p :: r
/-- rows in order -/
structure IsRow (k : Kd) (l : Bg) : Prop where
  ty : typed k l
  st : l.Pairwise fun p q => plt p.1 q.1 = true
theorem putR_mem {x : Pv} {t : Int} : ∀ {l : Bg} {q : Pv × Int}, q ∈ putR x t l → q.1 = x ∨ q ∈ l
  | [], q, h => by simp [putR] at h; exact .inl (by rw [h])
  | p :: r, q, h => by
    unfold putR at h
    split at h
    · rcases List.mem_cons.mp h with rfl | h
      · exact .inl rfl
      · exact .inr (List.mem_cons_of_mem _ h)
    · split at h
      · rcases List.mem_cons.mp h with rfl | h
        · exact .inr List.mem_cons_self
        · rcases putR_mem h with h | h
          · exact .inl h
          · exact .inr (List.mem_cons_of_mem _ h)
      · rcases List.mem_cons.mp h with rfl | h
        · exact .inl rfl
        · exact .inr h
theorem putR_row {k : Kd} {x : Pv} {t : Int} (hx : hasP k x = true) : ∀ {l : Bg}, IsRow k l → IsRow k (putR x t l)
  | [], _ => ⟨fun p h => by simp [putR] at h; rw [h]; exact hx, by simp [putR]⟩
  | p :: r, h => by
    obtain ⟨ty, st⟩ := h
    have tr : IsRow k r := ⟨fun q hq => ty q (List.mem_cons_of_mem _ hq), (List.pairwise_cons.mp st).2⟩
    have hp := (List.pairwise_cons.mp st).1
    refine ⟨fun q hq => ?_, ?_⟩
    · rcases putR_mem hq with e | e
      · rw [e]; exact hx
      · exact ty q e
    · unfold putR
      by_cases e : p.1 = x
      · rw [if_pos e]
        exact List.pairwise_cons.mpr ⟨fun q hq => by rw [← e]; exact hp q hq, tr.st⟩
      · rw [if_neg e]
        cases e2 : plt p.1 x with
        | true =>
          rw [if_pos rfl]
          refine List.pairwise_cons.mpr ⟨fun q hq => ?_, (putR_row hx tr).st⟩
          rcases putR_mem hq with h | h
          · rw [h]; exact e2
          · exact hp q h
        | false =>
          rw [if_neg (by simp)]
          have lt : plt x p.1 = true := by
            cases e3 : plt x p.1 with
            | true => rfl
            | false => exact absurd (plt_total (ty p List.mem_cons_self) hx e2 e3) e
          refine List.pairwise_cons.mpr ⟨fun q hq => ?_, st⟩
          rcases List.mem_cons.mp hq with rfl | hq
          · exact lt
          · exact plt_trans lt (hp q hq)
theorem putR_cnt {x : Pv} {t : Int} : ∀ {l : Bg} {y : Pv}, cnt (putR x t l) y = cnt l y + cnt [(x, t)] y
  | [], y => by simp [putR, cnt]
  | p :: r, y => by
    unfold putR
    split
    · rename_i e; subst e; simp only [cnt]; split <;> omega
    · split
      · simp only [cnt, putR_cnt (l := r)]; omega
      · simp only [cnt]; omega
theorem putR_len {x : Pv} {t : Int} : ∀ {l : Bg}, (putR x t l).length ≤ l.length + 1
  | [] => by simp [putR]
  | p :: r => by
    unfold putR; split
    · simp
    · split
      · have := putR_len (x := x) (t := t) (l := r); simp only [List.length_cons]; omega
      · simp
/-- where it is put: the sides of the row's values, how many are ahead -/
theorem putR_place {k : Kd} {x : Pv} {t : Int} (hx : hasP k x = true) : ∀ {l : Bg}, IsRow k l → ∃ a : Nat, (l.map fun p => sgn p.1 x).count (-1) = a ∧ a ≤ l.length ∧
    ((∃ p, l[a]? = some p ∧ p.1 = x ∧ putR x t l = l.set a (x, p.2 + t) ∧ (0 : Int) ∈ l.map fun p => sgn p.1 x) ∨ ((0 : Int) ∉ (l.map fun p => sgn p.1 x) ∧ putR x t l = l.take a ++ [(x, t)] ++ l.drop a))
  | [], _ => ⟨0, by simp, by simp, .inr ⟨by simp, by simp [putR]⟩⟩
  | p :: r, h => by
    obtain ⟨ty, st⟩ := h
    have tr : IsRow k r := ⟨fun q hq => ty q (List.mem_cons_of_mem _ hq), (List.pairwise_cons.mp st).2⟩
    have hp := (List.pairwise_cons.mp st).1
    have behind : plt p.1 x = false → ∀ q ∈ r, sgn q.1 x = 1 := by
      intro e q hq
      unfold sgn
      have lt := hp q hq
      have n1 : ¬ q.1 = x := fun z => by rw [z, e] at lt; cases lt
      have n2 : plt q.1 x = false := by
        cases e3 : plt q.1 x with
        | false => rfl
        | true => rw [plt_trans lt e3] at e; cases e
      rw [if_neg n1, n2]; rfl
    have noneAhead : plt p.1 x = false → (r.map fun p => sgn p.1 x).count (-1) = 0 := by
      intro e
      rw [List.count_eq_zero]
      intro hm
      obtain ⟨q, hq, e2⟩ := List.mem_map.mp hm
      rw [behind e q hq] at e2; cases e2
    by_cases e : p.1 = x
    · have e2 : plt p.1 x = false := by rw [e]; exact plt_irrefl _
      have s0 : sgn p.1 x = 0 := sgn_eq.mpr e
      refine ⟨0, ?_, by simp, .inl ⟨p, rfl, e, ?_, ?_⟩⟩
      · simp only [List.map_cons, s0]
        rw [List.count_cons_of_ne (by decide), noneAhead e2]
      · unfold putR; rw [if_pos e]; simp
      · simp [s0]
    · cases e2 : plt p.1 x with
      | true =>
        have s1 : sgn p.1 x = -1 := sgn_lt.mpr e2
        obtain ⟨a, ha, la, q⟩ := putR_place (t := t) hx tr
        refine ⟨a + 1, ?_, by simp; omega, ?_⟩
        · simp only [List.map_cons, s1, List.count_cons_self, ha]
        · rcases q with ⟨z, hz, ez, pz, mz⟩ | ⟨nz, pz⟩
          · refine .inl ⟨z, by simpa using hz, ez, ?_, by simp only [List.map_cons]; exact List.mem_cons_of_mem _ mz⟩
            unfold putR; rw [if_neg e, e2, if_pos rfl, pz]; simp
          · refine .inr ⟨?_, ?_⟩
            · simp only [List.map_cons, s1]
              intro hm
              rcases List.mem_cons.mp hm with h | h
              · cases h
              · exact nz h
            · unfold putR; rw [if_neg e, e2, if_pos rfl, pz]; simp
      | false =>
        have s1 : sgn p.1 x = 1 := by unfold sgn; rw [if_neg e, e2]; rfl
        refine ⟨0, ?_, by simp, .inr ⟨?_, ?_⟩⟩
        · simp only [List.map_cons, s1]
          rw [List.count_cons_of_ne (by decide), noneAhead e2]
        · simp only [List.map_cons, s1]
          intro hm
          rcases List.mem_cons.mp hm with h | h
          · cases h
          · obtain ⟨q, hq, e3⟩ := List.mem_map.mp h
            rw [behind e2 q hq] at e3; cases e3
        · unfold putR; rw [if_neg e, e2, if_neg (by simp)]; simp
def putsR (l acc : Bg) : Bg := l.foldl (fun acc p => putR p.1 p.2 acc) acc
theorem putsR_facts {k : Kd} : ∀ {l acc : Bg}, typed k l → IsRow k acc → IsRow k (putsR l acc) ∧ (putsR l acc).length ≤ acc.length + l.length ∧ ∀ x, cnt (putsR l acc) x = cnt acc x + cnt l x
  | [], acc, _, h => ⟨h, by simp [putsR], fun x => by simp [putsR, cnt]⟩
  | p :: r, acc, tl, h => by
    have h1 := putR_row (t := p.2) (tl p List.mem_cons_self) h
    obtain ⟨a, b, c⟩ := putsR_facts (l := r) (fun q hq => tl q (List.mem_cons_of_mem _ hq)) h1
    have e : putsR (p :: r) acc = putsR r (putR p.1 p.2 acc) := rfl
    rw [e]
    refine ⟨a, ?_, fun x => ?_⟩
    · have := putR_len (x := p.1) (t := p.2) (l := acc); simp only [List.length_cons]; omega
    · rw [c x, putR_cnt]; simp only [cnt]; omega
theorem row_nodup {k : Kd} {l : Bg} (h : IsRow k l) : (keys l).Nodup := by
  unfold keys
  rw [List.nodup_iff_pairwise_ne, List.pairwise_map]
  refine h.st.imp fun {a b} lt e => ?_
  rw [e, plt_irrefl] at lt; cases lt
/-- what is there 0 times is let go -/
theorem row_bag {k : Kd} {l : Bg} (h : IsRow k l) : IsBag k (l.filter fun p => decide (p.2 ≠ 0)) :=
  ⟨fun p hp => h.ty p (List.mem_filter.mp hp).1, fun p hp => by have := (List.mem_filter.mp hp).2; simpa using this, h.st.filter _⟩
theorem cnt_filter : ∀ {l : Bg} {x : Pv}, cnt (l.filter fun p => decide (p.2 ≠ 0)) x = cnt l x
  | [], _ => rfl
  | p :: r, x => by
    by_cases h : p.2 = 0
    · rw [List.filter_cons_of_neg (by simp [h])]; simp only [cnt, h, cnt_filter (l := r)]; split <;> omega
    · rw [List.filter_cons_of_pos (by simp [h])]; simp only [cnt, cnt_filter (l := r)]
theorem nil_row {k : Kd} : IsRow k [] := ⟨fun _ h => (nomatch h), .nil⟩
/-- the bag of pairs, made by places: that of sums -/
theorem putsR_norm {k : Kd} {l : Bg} (t : typed k l) : (putsR l []).filter (fun p => decide (p.2 ≠ 0)) = norm (dsum [] l) := by
  obtain ⟨h1, _, h2⟩ := putsR_facts (k := k) (l := l) (acc := []) t nil_row
  obtain ⟨a, b, _, c⟩ := dsum_facts (k := k) (l := l) (acc := []) (by simp [keys]) (fun _ h => (nomatch h)) t
  refine bag_ext (k := k) (row_bag h1) (norm_bag a b) fun x => ?_
  rw [cnt_filter, h2, cnt_norm a, c]
end Cw

set_option Elab.async false
set_option linter.all false
set_option maxRecDepth 100000
set_option maxHeartbeats 1000000
-- from: k03 k04
/-! RB: kinds, numbers, bags, values as k03 and k04 draw them. -/
namespace Cw
open Ev
open PySem (Str PyData)
section
variable {j n : Nat} {M : Mem}
theorem run_plainK : ∀ (n : Nat) (M : Mem) (x : Int), W4 M j → 1 ≤ x → x + 2 ≤ n → ∃ k M', run P n (.fn "_law_plain") [.obj j, .int x] M = .ok (enc k) M' ∧ k.pl = true ∧ (k.dp : Int) ≤ x ∧ S4 j M M'
  | n, M, x, w, h1, hn => by
    obtain ⟨n, rfl⟩ : ∃ m, n = m + 1 + 1 := ⟨n - 2, by omega⟩
    rw [run_step l__law_plain rfl]
    obtain ⟨r, M1, hr, r0, s1⟩ : ∃ r M1, ev (P.en (run P (n + 1))) (.ite (.cmp .Gt (.var 1) (.k (.int 1))) (.call "_law_draw" (.cons (.var 0) (.cons (.k (.int 7)) .nil)) .nil [.inl 0, .inl 1]) (.call "_law_draw" (.cons (.var 0) (.cons (.k (.int 4)) .nil)) .nil [.inl 0, .inl 1])) [some (.obj j), some (.int x), none, none] M = .ok (.int r) M1 ∧ (x ≤ 1 → r < 4) ∧ S4 j M M1 := by
      by_cases hx : 1 < x
      · obtain ⟨r, M1, hr, r0, r1, s1⟩ := run_draw (n := n) (M := M) (m := 7) w (by decide) (by decide)
        exact ⟨r, M1, by simp [hx, en_call, en_dfl, d__law_draw, arrange, pick, hr], by omega, s1⟩
      · obtain ⟨r, M1, hr, r0, r1, s1⟩ := run_draw (n := n) (M := M) (m := 4) w (by decide) (by decide)
        exact ⟨r, M1, by simp [hx, en_call, en_dfl, d__law_draw, arrange, pick, hr], by omega, s1⟩
    have N4 : start' t__law_plain.N [.obj j, .int x] = [some (.obj j), some (.int x), none, none] := rfl
    rw [N4]
    by_cases h4 : r < 4
    · by_cases h3 : r = 3
      · refine ⟨.unit, M1, ?_, rfl, by simp [Kd.dp]; omega, s1⟩
        rw [← leave_enc (k := .unit) (M := M1) s1.1.symm]
        simp only [t__law_plain, exs_cons, ex_asg, hr, Res.bind_ok, asT_var, seqF_next]
        simp [h4, h3, LIM, enc]
      · refine ⟨.num, M1, ?_, rfl, by simp [Kd.dp]; omega, s1⟩
        rw [← leave_enc (k := .num) (M := M1) s1.1.symm]
        simp only [t__law_plain, exs_cons, ex_asg, hr, Res.bind_ok, asT_var, seqF_next]
        simp [h4, h3, LIM, enc]
    · obtain ⟨k1, M2, e1, q1, p1, s2⟩ := run_plainK (n + 1) M1 (x - 1) s1.2 (by omega) (by omega)
      obtain ⟨k2, M3, e2, q2, p2, s3⟩ := run_plainK (n + 1) M2 (x - 1) s2.2 (by omega) (by omega)
      have s := (s1.trans s2).trans s3
      by_cases h6 : r < 6
      · refine ⟨.pair k1 k2, M3, ?_, by simp [Kd.pl, q1, q2], by simp [Kd.dp]; omega, s⟩
        rw [← leave_enc (k := .pair k1 k2) (M := M3) s.1.symm]
        simp only [t__law_plain, exs_cons, ex_asg, hr, Res.bind_ok, asT_var, seqF_next]
        simp [h4, h6, LIM, enc, en_call, en_dfl, d__law_plain, arrange, pick, e1, e2]
      · refine ⟨.either k1 k2, M3, ?_, by simp [Kd.pl, q1, q2], by simp [Kd.dp]; omega, s⟩
        rw [← leave_enc (k := .either k1 k2) (M := M3) s.1.symm]
        simp only [t__law_plain, exs_cons, ex_asg, hr, Res.bind_ok, asT_var, seqF_next]
        simp [h4, h6, LIM, enc, en_call, en_dfl, d__law_plain, arrange, pick, e1, e2]
termination_by n => n
theorem run_groupK : ∀ (n : Nat) (M : Mem) (x : Int), W4 M j → 1 ≤ x → x + 3 ≤ n → ∃ k M', run P n (.fn "_law_group") [.obj j, .int x] M = .ok (enc k) M' ∧ k.gr = true ∧ (k.dp : Int) ≤ x ∧ S4 j M M'
  | n, M, x, w, h1, hn => by
    obtain ⟨n, rfl⟩ : ∃ m, n = m + 1 + 1 := ⟨n - 2, by omega⟩
    rw [run_step l__law_group rfl]
    obtain ⟨r, M1, hr, r0, s1⟩ : ∃ r M1, ev (P.en (run P (n + 1))) (.ite (.cmp .Gt (.var 1) (.k (.int 1))) (.call "_law_draw" (.cons (.var 0) (.cons (.k (.int 6)) .nil)) .nil [.inl 0, .inl 1]) (.k (.int 0))) [some (.obj j), some (.int x), none, none] M = .ok (.int r) M1 ∧ (x ≤ 1 → r < 2) ∧ S4 j M M1 := by
      by_cases hx : 1 < x
      · obtain ⟨r, M1, hr, r0, r1, s1⟩ := run_draw (n := n) (M := M) (m := 6) w (by decide) (by decide)
        exact ⟨r, M1, by simp [hx, en_call, en_dfl, d__law_draw, arrange, pick, hr], by omega, s1⟩
      · exact ⟨0, M, by simp [hx], by omega, S4.refl w⟩
    have N4 : start' t__law_group.N [.obj j, .int x] = [some (.obj j), some (.int x), none, none] := rfl
    rw [N4]
    by_cases h2 : r < 2
    · refine ⟨.num, M1, ?_, rfl, by simp [Kd.dp]; omega, s1⟩
      rw [← leave_enc (k := .num) (M := M1) s1.1.symm]
      simp only [t__law_group, exs_cons, ex_asg, hr, Res.bind_ok, asT_var, seqF_next]
      simp [h2, LIM, enc]
    · by_cases h4 : r < 4
      · obtain ⟨k1, M2, e1, q1, p1, s2⟩ := run_plainK (n + 1) M1 (x - 1) s1.2 (by omega) (by omega)
        have s := s1.trans s2
        refine ⟨.bag k1, M2, ?_, q1, by simp [Kd.dp]; omega, s⟩
        rw [← leave_enc (k := .bag k1) (M := M2) s.1.symm]
        simp only [t__law_group, exs_cons, ex_asg, hr, Res.bind_ok, asT_var, seqF_next]
        simp [h2, h4, LIM, enc, en_call, en_dfl, d__law_plain, arrange, pick, e1]
      · obtain ⟨k1, M2, e1, q1, p1, s2⟩ := run_groupK (n + 1) M1 (x - 1) s1.2 (by omega) (by omega)
        obtain ⟨k2, M3, e2, q2, p2, s3⟩ := run_groupK (n + 1) M2 (x - 1) s2.2 (by omega) (by omega)
        have s := (s1.trans s2).trans s3
        refine ⟨.pair k1 k2, M3, ?_, by simp [Kd.gr, q1, q2], by simp [Kd.dp]; omega, s⟩
        rw [← leave_enc (k := .pair k1 k2) (M := M3) s.1.symm]
        simp only [t__law_group, exs_cons, ex_asg, hr, Res.bind_ok, asT_var, seqF_next]
        simp [h2, h4, LIM, enc, en_call, en_dfl, d__law_group, arrange, pick, e1, e2]
termination_by n => n
theorem set4_3 {a b c e v : Int} (h : M[j]? = some (.lst [.int a, .int b, .int c, .int e])) : setD (.obj j) (.int 3) (.int v) M = some (M.set j (.lst [.int a, .int b, .int c, .int v])) := by
  simp [setD, h, L2.ixN, D.und]
theorem run_number (w : W4 M j) (hn : 3 ≤ n) : ∃ i M', run P n (.fn "_law_number") [.obj j] M = .ok (.int i) M' ∧ mI i ≤ 70 ∧ S4 j M M' := by
  obtain ⟨n, rfl⟩ : ∃ m, n = m + 1 + 1 := ⟨n - 2, by omega⟩
  obtain ⟨r, M1, hr, r0, r1, s1⟩ := run_draw (n := n) (M := M) (m := 9) w (by decide) (by decide)
  have p20 : ∀ M, binD .Pow (.int 10) (.int 20) M = .ok (.int 100000000000000000000) M := fun M => by simp [binD]
  have p15 : ∀ M, binD .Pow (.int 10) (.int 15) M = .ok (.int 1000000000000000) M := fun M => by simp [binD]
  have N2 : start' t__law_number.N [.obj j] = [some (.obj j), none] := rfl
  have small : ∀ {i : Int}, i.natAbs < 2 ^ 67 → mI i ≤ 70 := fun h => mI_le h
  obtain ⟨a, b, c, e, hM⟩ := s1.2
  have i3 : idxD (.obj j) (.int 3) M1 = .ok (.int e) M1 := idx_obj (n := 3) hM rfl
  by_cases h8 : r = 8 ∧ 0 < e
  · obtain ⟨h8, he⟩ := h8
    have sx := set4_3 (v := e - 1) hM
    have hj : j < M1.length := by rw [s1.1]; exact w.lt
    have w2 : S4 j M1 (M1.set j (.lst [.int a, .int b, .int c, .int (e - 1)])) := ⟨by simp, ⟨_, _, _, _, at_set hj⟩, fun i hi => List.getElem?_set_ne (Ne.symm hi)⟩
    obtain ⟨d, M3, e3, hd, s3⟩ := run_pick (n := n + 1) (M := M1.set j (.lst [.int a, .int b, .int c, .int (e - 1)])) (l := [.int 100000000000000000000, .int (-99999999999999999999), .int 65536, .int (-4096), .int 123456789, .int 1000000000000007]) w2.2 (by simp) (by simp) (by simp [unds, D.und]) (by omega)
    have s := (s1.trans w2).trans s3
    obtain ⟨i, rfl, hi⟩ : ∃ i : Int, d = .int i ∧ mI i ≤ 70 := by
      simp only [List.mem_cons, List.not_mem_nil, or_false] at hd
      rcases hd with h | h | h | h | h | h <;> exact ⟨_, h, small (by decide +kernel)⟩
    refine ⟨i, M3, ?_, hi, s⟩
    rw [run_step l__law_number rfl, N2, ← leave_und (m := M.length) (M := M3) (d := .int i) rfl s.1.symm]
    simp [t__law_number, LIM, en_call, en_dfl, d__law_draw, d__law_pick, arrange, pick, hr, h8, i3, he, sx, p20, p15, e3]
  · have fin : ∀ i M', (ev (P.en (run P (n + 1))) (.ite (.cmp .Lt (.var 1) (.k (.int 4))) (.call "_law_draw" (.cons (.var 0) (.cons (.k (.int 4)) .nil)) .nil [.inl 0, .inl 1]) (.bin .Sub (.call "_law_draw" (.cons (.var 0) (.cons (.k (.int 19)) .nil)) .nil [.inl 0, .inl 1]) (.k (.int 9)))) [some (.obj j), some (.int r)] M1 = .ok (.int i) M') → mI i ≤ 70 → S4 j M1 M' → ∃ i M', run P (n + 1 + 1) (.fn "_law_number") [.obj j] M = .ok (.int i) M' ∧ mI i ≤ 70 ∧ S4 j M M' := by
      intro i M' h hi s'
      have s := s1.trans s'
      refine ⟨i, M', ?_, hi, s⟩
      rw [run_step l__law_number rfl, N2, ← leave_und (m := M.length) (M := M') (d := .int i) rfl s.1.symm]
      simp only [t__law_number, exs_cons, ex_asg, ex_ret]
      by_cases r8 : r = 8
      · have : ¬ 0 < e := fun q => h8 ⟨r8, q⟩
        simp [-ev_ite, en_call, en_dfl, d__law_draw, arrange, pick, hr, r8, i3, this]
        rw [r8] at h; simp [-ev_ite, h]
      · simp [-ev_ite, en_call, en_dfl, d__law_draw, arrange, pick, hr, r8, h]
    by_cases h4 : r < 4
    · obtain ⟨x, M2, e2, x0, x1, s2⟩ := run_draw (n := n) (M := M1) (m := 4) s1.2 (by decide) (by decide)
      exact fin x M2 (by simp [h4, en_call, en_dfl, d__law_draw, arrange, pick, e2]) (small (by omega)) s2
    · obtain ⟨x, M2, e2, x0, x1, s2⟩ := run_draw (n := n) (M := M1) (m := 19) s1.2 (by decide) (by decide)
      exact fin (x - 9) M2 (by simp [h4, en_call, en_dfl, d__law_draw, arrange, pick, e2]) (small (by omega)) s2
end
theorem int_bl {b : Bool} {call : D → List D → Mem → Res D} {M : Mem} : bltD call .int [.bl b] M = .ok (.int (if b then 1 else 0)) M := rfl
theorem run_lorder {k : Kd} : k.pl = true → ∀ {a b : Pv} {n : Nat} {M : Mem}, hasP k a = true → hasP k b = true → k.dp ≤ n → run P n (.fn "_law_order") [enc k, encP a, encP b] M = .ok (.int (sgn a b)) M := by
  induction k with
  | unit =>
    intro _ a b n M ha hb hn
    obtain ⟨n, rfl⟩ : ∃ m, n = m + 1 := ⟨n - 1, by simp only [Kd.dp] at hn; omega⟩
    cases a <;> simp [hasP] at ha
    cases b <;> simp [hasP] at hb
    rw [sgn_refl]
    refine run_pure l__law_order rfl rfl ?_ rfl
    simp [t__law_order, start', enc]
  | num =>
    intro _ a b n M ha hb hn
    obtain ⟨n, rfl⟩ : ∃ m, n = m + 1 := ⟨n - 1, by simp only [Kd.dp] at hn; omega⟩
    cases a <;> simp [hasP] at ha
    cases b <;> simp [hasP] at hb
    rw [sgn_num]
    refine run_pure l__law_order rfl rfl ?_ rfl
    simp [t__law_order, start', enc, encP, int_bl]
  | bag k _ => intro h; simp [Kd.pl] at h
  | fn k l _ _ => intro h; simp [Kd.pl] at h
  | pair k l ihk ihl =>
    intro hp a b n M ha hb hn
    simp only [Kd.pl, Bool.and_eq_true] at hp
    obtain ⟨n, rfl, hn⟩ := succ_of hn
    cases a <;> simp [hasP] at ha
    cases b <;> simp [hasP] at hb
    rename_i a1 a2 b1 b2
    have h1 := fun M => ihk hp.1 (n := n) (M := M) ha.1 hb.1 (by omega)
    have h2 := fun M => ihl hp.2 (n := n) (M := M) ha.2 hb.2 (by omega)
    rw [sgn_pair ha.1 hb.1 ha.2 hb.2]
    refine run_pure l__law_order rfl rfl ?_ rfl
    by_cases e : sgn a1 b1 = 0
    · simp [t__law_order, start', enc, encP, en_call, en_dfl, d__law_order, arrange, pick, h1, h2, e]
    · simp [t__law_order, start', enc, encP, en_call, en_dfl, d__law_order, arrange, pick, h1, h2, e]
  | either k l ihk ihl =>
    intro hp a b n M ha hb hn
    simp only [Kd.pl, Bool.and_eq_true] at hp
    obtain ⟨n, rfl, hn⟩ := succ_of hn
    cases a <;> simp [hasP] at ha <;> cases b <;> simp [hasP] at hb <;> rename_i a b
    · have h1 := fun M => ihk hp.1 (n := n) (M := M) ha hb (by omega)
      rw [sgn_left ha hb]
      refine run_pure l__law_order rfl rfl ?_ rfl
      simp [t__law_order, start', enc, encP, cmp_ne, en_call, en_dfl, d__law_order, arrange, pick, h1]
    · rw [sgn_lr]
      refine run_pure l__law_order rfl rfl ?_ rfl
      simp [t__law_order, start', enc, encP, cmp_ne]
    · rw [sgn_rl]
      refine run_pure l__law_order rfl rfl ?_ rfl
      simp [t__law_order, start', enc, encP, cmp_ne]
    · have h1 := fun M => ihl hp.2 (n := n) (M := M) ha hb (by omega)
      rw [sgn_right ha hb]
      refine run_pure l__law_order rfl rfl ?_ rfl
      simp [t__law_order, start', enc, encP, cmp_ne, en_call, en_dfl, d__law_order, arrange, pick, h1]
end Cw

set_option Elab.async false
set_option linter.all false
set_option maxRecDepth 100000
set_option maxHeartbeats 1000000
-- from: k03
/-! RG: k03's odd, bent and spoilt things. -/
namespace Cw
open Ev
open PySem (Str PyData)
def OD1 : List D := [.non, .bl true, .bl false, .int 0, .int 1, .int (-1), .int 7, .int 1000000000000000000000000000000, .str "", .str "num", .str "x", .str "let", .str "unit", .tup [], .tup [.int 0], .tup [.str "num"], .tup [.str "unit", .int 1]]
def OD2 : List D := [.tup [.str "pair", .tup [.str "num"]], .tup [.str "bag"], .tup [.str "bag", .tup [.str "bag", .tup [.str "num"]]], .tup [.str "name", .str "x"], .tup [.str "name", .str "let"], .tup [.str "number", .bl true]]
def OD3 : List D := [.tup [.str "fun", .tup [.str "num"], .tup [.str "num"]], .lst [], .lst [.int 1], .dct [], .str "1x", .tup [.str "left", .int 1], .tup [.tup [.str "num"], .int 2], .str "x'", .tup [.str "name", .str "x'"]]
theorem od_tm : tms 4 (OD1 ++ OD2 ++ OD3) = true := by decide +kernel
theorem pow_30 {M : Mem} : binD .Pow (.int 10) (.int 30) M = .ok (.int 1000000000000000000000000000000) M := by
  simp [binD]
section
variable {j n : Nat} {M : Mem}
theorem leave_tm {N m : Nat} {d : D} {M : Mem} (h : tm N d = true) (hN : N ≤ 500000) (hm : m = M.length) : leave .drop m d M = .ok d M := leave_und (tame_und (tm_tame hN h)) hm
theorem run_odd4 (w : W4 M j) (hn : 3 ≤ n) : ∃ d M', run P n (.fn "_law_odd") [.obj j] M = .ok d M' ∧ tm 4 d = true ∧ S4 j M M' := by
  obtain ⟨n, rfl, hn⟩ := succ_of hn
  obtain ⟨d, M', e, hd, s⟩ := run_pick (n := n) (M := M) (l := OD1 ++ OD2 ++ OD3) w (by simp [OD1]) (by decide +kernel) (tames_unds (tms_tame (by decide) od_tm)) (by omega)
  have t := tms_mem od_tm d hd
  refine ⟨d, M', ?_, t, s⟩
  rw [run_step l__law_odd rfl, ← leave_tm (M := M') t (by decide) s.1.symm]
  simp only [OD1, OD2, OD3, List.cons_append, List.nil_append] at e
  simp [t__law_odd, start', LIM, pow_30, add_tt, en_call, en_dfl, d__law_pick, arrange, pick, e]
theorem run_lwhole4 {d : D} {n : Nat} {M : Mem} (h : tame d = true) (hn : 1 ≤ n) : run P n (.fn "_law_is_whole") [d] M = .ok (.bl (isInt d)) M := by
  obtain ⟨n, rfl, hn⟩ := succ_of (m := 0) hn
  have i1 := fun M call => isi_I (M := M) (call := call) h
  have i2 := fun M call => isi_B (M := M) (call := call) h
  refine run_pure l__law_is_whole rfl rfl ?_ und_bl
  cases d <;> first | (simp [tame] at h; done) | simp [t__law_is_whole, start', i1, i2, isInt, isBl]
theorem sli_f1 {l : List D} {n : Nat} {M : Mem} : sliD (.tup l) (some ((n : Int) + 1)) none M = .ok (.tup (l.drop (n + 1))) M := by
  have := sli_from (l := l) (n := n + 1) (M := M)
  simpa using this
theorem list_tup4 {call : D → List D → Mem → Res D} {l : List D} {M : Mem} : bltD call .list [.tup l] M = .ok (.lst l) M := rfl
theorem run_bent4 {N : Nat} {d : D} (w : W4 M j) (hd : tm N d = true) (h4 : 4 ≤ N) (h9 : N ≤ 400000) (hn : 5 ≤ n) : ∃ r M', run P n (.fn "_law_bent") [.obj j, d] M = .ok r M' ∧ tm (N + 1) r = true ∧ S4 j M M' := by
  obtain ⟨n, rfl⟩ : ∃ m, n = m + 1 + 1 := ⟨n - 2, by omega⟩
  have td := tm_tame (by omega) hd
  obtain ⟨r, M1, hr, r0, r1, s1⟩ := run_draw (n := n) (M := M) (m := 8) w (by decide) (by decide)
  obtain ⟨o, M2, e2, t2, s2⟩ := run_odd4 (n := n + 1) s1.2 (by omega)
  have t2' := tm_mono (N' := N + 1) (by omega) t2
  have s12 := s1.trans s2
  have wh := fun M => run_lwhole4 (n := n + 1) (M := M) td (by omega)
  have it := fun M call => isi_T (M := M) (call := call) td
  have N4 : start' t__law_bent.N [.obj j, d] = [some (.obj j), some d, none, none] := rfl
  have fin : ∀ {z : D} {M3 : Mem}, tm (N + 1) z = true → S4 j M M3 → exs (P.en (run P (n + 1))) t__law_bent.body [some (.obj j), some d, none, none] M = .ok (.ret z) M3 → ∃ r M', run P (n + 1 + 1) (.fn "_law_bent") [.obj j, d] M = .ok r M' ∧ tm (N + 1) r = true ∧ S4 j M M' := by
    intro z M3 tz s ez
    refine ⟨z, M3, ?_, tz, s⟩
    rw [run_step l__law_bent rfl, N4, ez, finish_ret]
    exact leave_tm tz (by omega) s.1.symm
  by_cases hw : r < 2 ∧ isInt d = true
  · obtain ⟨h2, hi⟩ := hw
    obtain ⟨i, rfl⟩ := isInt_iff.mp hi
    rw [hi] at wh
    by_cases h0 : r = 0
    · exact fin (z := .int (i + 1)) (by simp [tm]) s1 (by simp [t__law_bent, en_call, en_dfl, d__law_draw, d__law_is_whole, arrange, pick, hr, wh, h0])
    · exact fin (z := .int (i + -1)) (by simp [tm]) s1 (by simp [t__law_bent, en_call, en_dfl, d__law_draw, d__law_is_whole, arrange, pick, hr, wh, h2, h0])
  · have c1 : ∀ (f : Mem → Res Flow') (g : Mem → Res Flow'), ((ev (P.en (run P (n + 1))) (.and_ (.cmp .Lt (.var 2) (.k (.int 2))) (.call "_law_is_whole" (.cons (.var 1) .nil) .nil [.inl 0])) [some (.obj j), some d, some (.int r), none] M1).bind fun x M => tIf x M f g) = g M1 := by
      intro f g
      by_cases h2 : r < 2
      · have hi : isInt d = false := by
          cases e : isInt d with
          | false => rfl
          | true => exact absurd ⟨h2, e⟩ hw
        rw [hi] at wh
        simp [en_call, en_dfl, d__law_is_whole, arrange, pick, wh, h2]
      · simp [h2]
    by_cases h3 : r < 3 ∨ d.isTup = false ∨ d = .tup []
    · refine fin t2' s12 ?_
      simp only [t__law_bent, exs_cons, ex_asg, ex_if]
      simp [-ev_and, en_call, en_dfl, d__law_draw, arrange, pick, hr, c1]
      by_cases r3 : r < 3
      · simp [r3, en_call, en_dfl, d__law_odd, arrange, pick, e2]
      · rcases h3 with h3 | h3 | h3
        · exact absurd h3 r3
        · rw [h3] at it; simp [r3, it, en_call, en_dfl, d__law_odd, arrange, pick, e2]
        · subst h3; simp [r3, isi_tup, en_call, en_dfl, d__law_odd, arrange, pick, e2]
    · have r3 : ¬ r < 3 := fun q => h3 (.inl q)
      have hT : d.isTup = true := by
        cases e : d.isTup with
        | true => rfl
        | false => exact absurd (.inr (.inl e)) h3
      obtain ⟨l, rfl⟩ := isTup_iff.mp hT
      have hl : l ≠ [] := fun q => h3 (.inr (.inr (by rw [q])))
      obtain ⟨ll, ht⟩ := tm_tup.mp hd
      have le : l.isEmpty = false := by simpa using hl
      have lp : 0 < l.length := List.length_pos_iff.mpr hl
      obtain ⟨q, M3, hq, q0, q1, s3⟩ := run_draw (n := n) (M := M1) (m := l.length) s1.2 (by omega) (by omega)
      have s13 := s1.trans s3
      obtain ⟨i, rfl⟩ := Int.eq_ofNat_of_zero_le q0
      have hi : i < l.length := by omega
      have a1 : ∀ M, sliD (.tup l) none (some (i : Int)) M = .ok (.tup (l.take i)) M := fun M => sli_to
      have a3 : ∀ M, sliD (.tup l) (some (i : Int)) none M = .ok (.tup (l.drop i)) M := fun M => sli_from (n := i)
      have a4 : ∀ M, idxD (.tup l) (.int (i : Int)) M = .ok l[i] M := fun M => idx_nat (by simp [hi])
      have mt : ∀ x ∈ l.take i, tm N x = true := fun x hx => ht x (List.mem_of_mem_take hx)
      have md : ∀ m, ∀ x ∈ l.drop m, tm N x = true := fun m x hx => ht x (List.mem_of_mem_drop hx)
      have up : ∀ {x}, tm N x = true → tm (N + 1) x = true := fun h => tm_mono (by omega) h
      have pre : ∀ {k : Res Flow'} , (∀ f : Unit, exs (P.en (run P (n + 1))) t__law_bent.body [some (.obj j), some (.tup l), none, none] M = k) → exs (P.en (run P (n + 1))) t__law_bent.body [some (.obj j), some (.tup l), none, none] M = k := fun h => h ()
      by_cases w3 : r = 3
      · subst w3
        refine fin (z := .tup (l.take i ++ l.drop (i + 1))) (tm_tup.mpr ⟨by simp; omega, fun x hx => ?_⟩) s13 ?_
        · rcases List.mem_append.mp hx with hx | hx
          · exact up (mt x hx)
          · exact up (md _ x hx)
        · have ad : ∀ M, binD .Add (.tup (l.take i)) (.tup (l.drop (i + 1))) M = .ok (.tup (l.take i ++ l.drop (i + 1))) M := fun M => add_tt (by simp [LIM]; omega)
          simp only [t__law_bent, exs_cons, ex_asg, ex_if]
          simp [-ev_and, en_call, en_dfl, d__law_draw, arrange, pick, hr, c1, isi_tup, hl, le, hq, a1, sli_f1, ad]
      · by_cases w4 : r = 4
        · subst w4
          refine fin (z := .tup (l.take (i + 1) ++ l.drop i)) (tm_tup.mpr ⟨by simp; omega, fun x hx => ?_⟩) s13 ?_
          · rcases List.mem_append.mp hx with hx | hx
            · exact up (ht x (List.mem_of_mem_take hx))
            · exact up (md _ x hx)
          · have ad : ∀ M, binD .Add (.tup (l.take i)) (.tup [l[i]]) M = .ok (.tup (l.take i ++ [l[i]])) M := fun M => add_tt (by simp [LIM]; omega)
            have ad2 : ∀ M, binD .Add (.tup (l.take (i + 1))) (.tup (l.drop i)) M = .ok (.tup (l.take (i + 1) ++ l.drop i)) M := fun M => add_tt (by simp [LIM]; omega)
            simp only [t__law_bent, exs_cons, ex_asg, ex_if]
            simp [-ev_and, en_call, en_dfl, d__law_draw, arrange, pick, hr, c1, isi_tup, hl, le, hq, a1, a3, a4, ad, ad2, LIM]
        · by_cases w5 : r = 5
          · subst w5
            obtain ⟨o', M4, e4, t4, s4⟩ := run_odd4 (n := n + 1) s3.2 (by omega)
            refine fin (z := .tup (l ++ [o'])) (tm_tup.mpr ⟨by simp; omega, fun x hx => ?_⟩) (s13.trans s4) ?_
            · rcases List.mem_append.mp hx with hx | hx
              · exact up (ht x hx)
              · rw [List.mem_singleton] at hx; rw [hx]; exact tm_mono (by omega) t4
            · have ad : ∀ M, binD .Add (.tup l) (.tup [o']) M = .ok (.tup (l ++ [o'])) M := fun M => add_tt (by simp [LIM]; omega)
              simp only [t__law_bent, exs_cons, ex_asg, ex_if]
              simp [-ev_and, en_call, en_dfl, d__law_draw, d__law_odd, arrange, pick, hr, c1, isi_tup, hl, le, hq, e4, ad, LIM]
          · by_cases w6 : r = 6
            · subst w6
              refine fin (z := .tup l.reverse) (tm_tup.mpr ⟨by simp; omega, fun x hx => up (ht x (List.mem_reverse.mp hx))⟩) s13 ?_
              simp only [t__law_bent, exs_cons, ex_asg, ex_if]
              simp [-ev_and, en_call, en_dfl, d__law_draw, arrange, pick, hr, c1, isi_tup, hl, le, hq]
            · refine fin (z := .lst l) (tm_lst.mpr ⟨by omega, fun x hx => up (ht x hx)⟩) s13 ?_
              simp only [t__law_bent, exs_cons, ex_asg, ex_if]
              simp [-ev_and, en_call, en_dfl, d__law_draw, arrange, pick, hr, c1, isi_tup, hl, le, hq, r3, w3, w4, w5, w6, list_tup4]
end
end Cw

set_option Elab.async false
set_option linter.all false
set_option maxRecDepth 100000
set_option maxHeartbeats 1000000
-- from: k03 k04
/-! RC: bags by places; drawn values; sums and times by the law. -/
namespace Cw
open Ev
open PySem (Str PyData)
def lb4b : SL := (.cons (.asg (.var 6) (.met .count (.var 5) (.cons (.una .USub (.k (.int 1))) .nil)))
  (.cons (.if_ (.cmp .In (.k (.int 0)) (.var 5))
  (.cons (.asg (.sub (.var 2) (.var 6)) (.tup (.cons (.var 3) (.cons (.bin .Add (.idx (.idx (.var 2) (.var 6)) (.k (.int 1))) (.var 4)) .nil))))
  .nil)
  (.cons (.ex (.met .insert (.var 2) (.cons (.var 6) (.cons (.tup (.cons (.var 3) (.cons (.var 4) .nil))) .nil))))
  .nil))
  .nil))
def lb4 : SL := (.cons (.asg (.var 5) (.comp false [("_law_each", 7)] (.var 7) (.val (.var 2)) .none (.call "_law_order" (.cons (.var 0) (.cons (.idx (.var 7) (.k (.int 0))) (.cons (.var 3) .nil))) .nil [.inl 0, .inl 1, .inl 2]))) lb4b)
theorem lbag4_body : t__law_bag.body = (.cons (.asg (.var 2) (.lst true .nil))
  (.cons (.for_ (.tup (.cons (.var 3) (.cons (.var 4) .nil))) (.val (.var 1)) lb4)
  (.cons (.ret (.blt .tuple (.cons (.comp false [("_law_each", 7)] (.var 7) (.val (.var 2)) (.some (.cmp .NotEq (.idx (.var 7) (.k (.int 1))) (.k (.int 0)))) (.var 7)) .nil)))
  .nil))) := rfl
theorem intsD_map : ∀ l : List Int, intsD (l.map D.int) = some l
  | [] => rfl
  | i :: r => by simp only [List.map_cons, intsD, intsD_map r, Option.map_some]
theorem count_ints {l : List Int} {x : Int} {M : Mem} : metD .count (.lst (l.map D.int)) [.int x] M = .ok (.int (l.count x : Nat)) M := by
  simp only [metD, lrOf, Option.bind_some, intsD_map]
theorem flat_ints : ∀ l : List Int, (l.map D.int).all D.flat = true
  | [] => rfl
  | i :: r => by rw [List.map_cons, List.all_cons, flat_ints r]; rfl
theorem inD_ints {x : Int} : ∀ {l : List Int}, inD (.int x) (l.map D.int) = decide (x ∈ l)
  | [] => rfl
  | i :: r => by
    rw [List.map_cons, inD_cons, inD_ints (l := r)]
    simp only [eqD, List.mem_cons]
    by_cases h : i = x
    · subst h; simp
    · have : ¬ x = i := fun e => h e.symm
      simp [h, this]
theorem in_ints {l : List Int} {x : Int} {M : Mem} : cmpD .In (.int x) (.lst (l.map D.int)) M = .ok (.bl (decide (x ∈ l))) M := by
  have h : D.flat (.int x) = true := rfl
  simp only [cmpD, cmpIn, seqOf, h, flat_ints, Bool.and_self, if_true, inD_ints, Bool.false_bne]
theorem und_encB {m : Nat} (l : Bg) : unds m (l.map encE) = true := by
  have := und_encL (m := m) l; simpa [D.und] using this
theorem run_lbag4 {k : Kd} {l : Bg} {x : D} {w : Option Nat} {n : Nat} {M : Mem} (hp : k.pl = true) (ty : typed k l) (hk : k.dp + 1 ≤ n) (hl : l.length < 500000) (hx : ∀ c, walkV x (M ++ [c]) = .ok (l.map encE, w) (M ++ [c])) (hw : ∀ c, chkW w (l.map encE) (M ++ [c]) = true) : run P n (.fn "_law_bag") [enc k, x] M = .ok (.tup ((norm (dsum [] l)).map encE)) M := by
  obtain ⟨n, rfl, hn⟩ := succ_of hk
  have tk : ∀ i, typed k (l.take i) := fun i p hp => ty p (List.mem_of_mem_take hp)
  have fa := fun i => putsR_facts (k := k) (acc := []) (tk i) nil_row
  have at1 : ∀ acc : Bg, (M ++ [Cell.lst (acc.map encE)])[M.length]? = some (.lst (acc.map encE)) := fun acc => by simp
  obtain ⟨σ1, M1, e1, ⟨o3, o4, o5, o6, rfl⟩, rfl⟩ := forW_inv (w := w) (all := l.map encE) (xs := l.map encE) (σ := [some (enc k), some x, some (.obj M.length), none, none, none, none, none]) (M := M ++ [.lst (([] : Bg).map encE)])
    (Inv := fun i σ M' => (∃ o3 o4 o5 o6, σ = [some (enc k), some x, some (.obj M.length), o3, o4, o5, o6, none]) ∧ M' = M ++ [.lst ((putsR (l.take i) []).map encE)])
    (g := fun d σ M => asT (P.en (run P n)) (.tup (.cons (.var 3) (.cons (.var 4) .nil))) d σ M) (f := fun σ M => exs (P.en (run P n)) lb4 σ M)
    (fun i σ M' _ inv => by obtain ⟨_, rfl⟩ := inv; exact hw _)
    (fun i d σ M' hd inv => by
      obtain ⟨⟨o3, o4, o5, o6, rfl⟩, rfl⟩ := inv
      rw [List.getElem?_map] at hd
      obtain ⟨p, hpp, rfl⟩ := Option.map_eq_some_iff.mp hd
      have hi : i < l.length := (List.getElem?_eq_some_iff.mp hpp).1
      have hpk := ty p (List.mem_of_getElem? hpp)
      obtain ⟨row, f3, _⟩ := fa i
      simp only [List.length_take, List.length_nil] at f3
      have nx : putsR (l.take (i + 1)) [] = putR p.1 p.2 (putsR (l.take i) []) := by
        unfold putsR
        rw [List.take_succ, hpp]; simp
      generalize hacc : putsR (l.take i) [] = acc at row f3 nx
      obtain ⟨a, ca, la, pl⟩ := putR_place (t := p.2) hpk row
      have stp : exs (P.en (run P n)) lb4 [some (enc k), some x, some (.obj M.length), some (encP p.1), some (.int p.2), o5, o6, none] (M ++ [Cell.lst (acc.map encE)]) = exs (P.en (run P n)) lb4b [some (enc k), some x, some (.obj M.length), some (encP p.1), some (.int p.2), some (.lst ((acc.map fun q => sgn q.1 p.1).map D.int)), o6, none] (M ++ [Cell.lst (acc.map encE)]) := by
        have wk : walkV (.obj M.length) (M ++ [Cell.lst (acc.map encE)]) = .ok (acc.map encE, some M.length) (M ++ [Cell.lst (acc.map encE)]) := by simp only [walkV, at1 acc]
        simp only [lb4, exs_cons, ex_asg, ev_comp, evi_val, ev_var, List.getElem?_cons_succ, List.getElem?_cons_zero, Res.bind_ok, wk, wipe', List.map_cons, List.map_nil, List.set_cons_succ, List.set_cons_zero]
        rw [compL_mapW (chkW_some (at1 acc)) (h := encE) (φ := fun q => D.int (sgn q.1 p.1)) (l := acc)]
        · simp
          rfl
        · intro q hq
          have lo := fun M => run_lorder hp (n := n) (M := M) (row.ty q hq) hpk hn
          have i1 : ∀ M, idxD (encE q) (.int 0) M = .ok (encP q.1) M := fun M => by simp [encE]
          exact ⟨[some (enc k), some x, some (.obj M.length), some (encP p.1), some (.int p.2), o5, o6, some (encE q)], by simp, by simp, by simp [i1, en_call, en_dfl, d__law_order, arrange, pick, lo]⟩
        · simp only [List.length_nil, Nat.zero_add]; show _ ≤ 1000000; omega
      refine ⟨[some (enc k), some x, some (.obj M.length), some (encP p.1), some (.int p.2), o5, o6, none], M ++ [Cell.lst (acc.map encE)], by simp [encE, TL.len], ?_⟩
      rw [nx]
      have rc : ∀ M0 : Mem, M0 = M ++ [Cell.lst (acc.map encE)] → recD .insert M0 (.obj M.length) = true := fun M0 h => by subst h; simp only [recD, at1 acc]
      have rcc : ∀ (l : List D) M, recD .count M (.lst l) = true := fun l M => rfl
      rcases pl with ⟨z, hz, ez, pz, mz⟩ | ⟨nz, pz⟩
      · have hlt : a < acc.length := (List.getElem?_eq_some_iff.mp hz).1
        have ix : idxD (.obj M.length) (.int (a : Int)) (M ++ [Cell.lst (acc.map encE)]) = .ok (encE z) (M ++ [Cell.lst (acc.map encE)]) := idx_obj (at1 acc) (by rw [List.getElem?_map, hz]; rfl)
        have st : setD (.obj M.length) (.int (a : Int)) (.tup [encP p.1, .int (z.2 + p.2)]) (M ++ [Cell.lst (acc.map encE)]) = some (M ++ [Cell.lst ((acc.set a (p.1, z.2 + p.2)).map encE)]) := by
          have u : (D.tup [encP p.1, .int (z.2 + p.2)]).und M.length = true := und_encE (p.1, z.2 + p.2)
          have ixn : L2.ixN acc.length (a : Int) = some a := by unfold L2.ixN; rw [if_pos (by omega), if_pos (by omega)]; simp
          simp only [setD, at1 acc, List.length_map, ixn, u, if_true, Option.some.injEq]
          rw [List.set_append_right _ _ (Nat.le_refl _)]
          simp [List.map_set, encE]
        refine ⟨[some (enc k), some x, some (.obj M.length), some (encP p.1), some (.int p.2), some (.lst ((acc.map fun q => sgn q.1 p.1).map D.int)), some (.int (a : Int)), none], M ++ [Cell.lst ((acc.set a (p.1, z.2 + p.2)).map encE)], ?_, ⟨_, _, _, _, rfl⟩, by rw [pz]⟩
        have i1 : ∀ M, idxD (encE z) (.int 1) M = .ok (.int z.2) M := fun M => by simp [encE]
        rw [stp]
        have mz' : decide ((0 : Int) ∈ acc.map fun q => sgn q.1 p.1) = true := decide_eq_true mz
        generalize (acc.map fun q => sgn q.1 p.1) = sd at ca mz'
        have ci := fun M => count_ints (l := sd) (x := -1) (M := M)
        have ii := fun M => in_ints (l := sd) (x := 0) (M := M)
        rw [ca] at ci
        rw [mz'] at ii
        simp [lb4b, rcc, ci, ii, ix, i1, LIM, st]
      · have st : metD .insert (.obj M.length) [.int (a : Int), .tup [encP p.1, .int p.2]] (M ++ [Cell.lst (acc.map encE)]) = .ok .non (M ++ [Cell.lst ((acc.take a ++ [(p.1, p.2)] ++ acc.drop a).map encE)]) := by
          have u : (D.tup [encP p.1, .int p.2]).und M.length = true := und_encE (p.1, p.2)
          have h1 : acc.length < LIM := by show _ < 1000000; omega
          have h2 : (0 : Int) ≤ (a : Int) ∧ (a : Int) < 2 ^ 63 := by omega
          simp only [metD, at1 acc, List.length_map, u, h1, h2, decide_true, Bool.and_self, if_true, Int.toNat_natCast]
          rw [List.set_append_right _ _ (Nat.le_refl _)]
          simp [encE]
        refine ⟨[some (enc k), some x, some (.obj M.length), some (encP p.1), some (.int p.2), some (.lst ((acc.map fun q => sgn q.1 p.1).map D.int)), some (.int (a : Int)), none], M ++ [Cell.lst ((acc.take a ++ [(p.1, p.2)] ++ acc.drop a).map encE)], ?_, ⟨_, _, _, _, rfl⟩, by rw [pz]⟩
        rw [stp]
        have nz' : decide ((0 : Int) ∈ acc.map fun q => sgn q.1 p.1) = false := decide_eq_false nz
        generalize (acc.map fun q => sgn q.1 p.1) = sd at ca nz'
        have ci := fun M => count_ints (l := sd) (x := -1) (M := M)
        have ii := fun M => in_ints (l := sd) (x := 0) (M := M)
        rw [ca] at ci
        rw [nz'] at ii
        simp [lb4b, rcc, ci, ii, rc _ rfl, LIM]
        simp only [List.append_assoc, List.singleton_append] at st
        simp [st])
    ⟨⟨none, none, none, none, rfl⟩, by simp [putsR]⟩
  simp only [List.length_map, List.take_length] at e1
  obtain ⟨row, f3, _⟩ := putsR_facts (k := k) (acc := []) ty nil_row
  have f3 : (putsR l []).length ≤ 1000000 := by simp only [List.length_nil] at f3; omega
  have pn := putsR_norm ty
  generalize hacc : putsR l [] = acc at row f3 pn e1
  have : M = (M ++ [Cell.lst (acc.map encE)]).take M.length := by simp
  conv => rhs; rw [this]
  refine run_ret l__law_bag rfl rfl ?_ (und_encL _)
  rw [lbag4_body]
  have N8 : start' t__law_bag.N [enc k, x] = [some (enc k), some x, none, none, none, none, none, none] := rfl
  rw [N8]
  have hx' := hx (.lst [])
  simp only [List.map_nil] at e1
  have wk : walkV (.obj M.length) (M ++ [Cell.lst (acc.map encE)]) = .ok (acc.map encE, some M.length) (M ++ [Cell.lst (acc.map encE)]) := by simp only [walkV, at1 acc]
  simp only [exs_cons, ex_asg, ev_lst, evs_nil, List.length_nil, Nat.zero_le, if_true, fresh_t, Res.bind_ok, asT_var, List.set_cons_succ, List.set_cons_zero, seqF_next, ex_for, evi_val, ev_var, List.getElem?_cons_zero, List.getElem?_cons_succ, hx']
  rw [e1]
  simp only [Res.bind_ok, seqF_next, ex_ret, ev_blt, evs_cons, evs_nil, ev_comp, evi_val, ev_var, List.getElem?_cons_zero, List.getElem?_cons_succ, wk, List.map_cons, List.map_nil, wipe', List.set_cons_succ, List.set_cons_zero]
  rw [compL_fmW (chkW_some (at1 acc)) (h := encE) (φ := encE) (ψ := fun p => decide (p.2 ≠ 0)) (l := acc)]
  · rw [pn]
    simp only [List.nil_append, fresh_f, Res.bind_ok, bltD, lrOf] <;> rfl
  · intro q hq
    have i1 : ∀ M, idxD (encE q) (.int 1) M = .ok (.int q.2) M := fun M => by simp [encE]
    exact ⟨[some (enc k), some x, some (.obj M.length), o3, o4, o5, o6, some (encE q)], by simp, by simp [i1], fun _ => by simp⟩
  · simp only [List.length_nil, Nat.zero_add]; exact f3
end Cw

set_option Elab.async false
set_option linter.all false
set_option maxRecDepth 100000
set_option maxHeartbeats 1000000
-- from: k03 k04
/-! RD: drawn values; sums and times by the law. -/
namespace Cw
open Ev
open PySem (Str PyData)
/-- a drawn value -/
structure D4 (k : Kd) (v : Vl) : Prop where
  hs : has k v
  bd : bdV 70 v
  m2 : ms v + 20 ≤ 320 * 2 ^ k.dp
  m1 : k.pl = true → ms v + 20 ≤ 50 * 2 ^ k.dp
theorem d4_pair {k l : Kd} {a b : Vl} (h1 : D4 k a) (h2 : D4 l b) : D4 (.pair k l) (.pair a b) := by
  have p1 : 2 ^ k.dp ≤ 2 ^ max k.dp l.dp := pow_max (b := 0) (Nat.le_max_left _ _)
  have p2 : 2 ^ l.dp ≤ 2 ^ max k.dp l.dp := pow_max (b := 0) (Nat.le_max_right _ _)
  refine ⟨⟨h1.hs, h2.hs⟩, ⟨h1.bd, h2.bd⟩, ?_, fun hp => ?_⟩
  · have := h1.m2; have := h2.m2
    simp only [ms, Kd.dp, Nat.pow_succ]; omega
  · simp only [Kd.pl, Bool.and_eq_true] at hp
    have := h1.m1 hp.1; have := h2.m1 hp.2
    simp only [ms, Kd.dp, Nat.pow_succ]; omega
theorem d4_left {k l : Kd} {a : Vl} (h1 : D4 k a) : D4 (.either k l) (.left a) := by
  have p1 : 2 ^ k.dp ≤ 2 ^ max k.dp l.dp := pow_max (b := 0) (Nat.le_max_left _ _)
  have p3 := two_pow (max k.dp l.dp)
  refine ⟨h1.hs, h1.bd, ?_, fun hp => ?_⟩
  · have := h1.m2
    simp only [ms, Kd.dp, Nat.pow_succ]; omega
  · simp only [Kd.pl, Bool.and_eq_true] at hp
    have := h1.m1 hp.1
    simp only [ms, Kd.dp, Nat.pow_succ]; omega
theorem d4_right {k l : Kd} {a : Vl} (h1 : D4 l a) : D4 (.either k l) (.right a) := by
  have p1 : 2 ^ l.dp ≤ 2 ^ max k.dp l.dp := pow_max (b := 0) (Nat.le_max_right _ _)
  have p3 := two_pow (max k.dp l.dp)
  refine ⟨h1.hs, h1.bd, ?_, fun hp => ?_⟩
  · have := h1.m2
    simp only [ms, Kd.dp, Nat.pow_succ]; omega
  · simp only [Kd.pl, Bool.and_eq_true] at hp
    have := h1.m1 hp.2
    simp only [ms, Kd.dp, Nat.pow_succ]; omega
/-- such an entry is drawn -/
structure E4 (k : Kd) (p : Pv × Int) : Prop where
  hs : hasP k p.1 = true
  bd : bdP 70 p.1
  t : mI p.2 ≤ 5
  m : mP p.1 + 20 ≤ 50 * 2 ^ k.dp
theorem d4_bag {k : Kd} {l : Bg} (h : ∀ p ∈ l, E4 k p) (hl : l.length ≤ 6) : D4 (.bag k) (.bag (norm (dsum [] l))) := by
  have n0 : (keys ([] : Bg)).Nodup := List.nodup_nil
  have t0 : typed k [] := fun _ h => (nomatch h)
  obtain ⟨f1, f2, f3, f4⟩ := dsum_facts n0 t0 (fun p hp => (h p hp).hs)
  have ib := norm_bag f1 f2
  have p3 := two_pow k.dp
  refine ⟨ib, ?_, ?_, fun hp => by simp [Kd.pl] at hp⟩
  · intro p hp
    have e1 : p.2 = cnt l p.1 := by
      have := cnt_norm (x := p.1) f1
      rw [f4] at this
      simp only [cnt, Int.zero_add] at this
      rw [← this, ← dget_cnt ib.nodup]
      exact (dget_mem ib.nodup p hp).symm
    constructor
    · have : p.1 ∈ keys (norm (dsum [] l)) := mem_keys.mpr ⟨p, hp, rfl⟩
      rw [keys_norm] at this
      have := (srt_perm _).mem_iff.mp (List.mem_filter.mp this).1
      rcases keys_dsum this with q | q
      · cases q
      · obtain ⟨q, hq, e⟩ := mem_keys.mp q
        rw [← e]; exact (h q hq).bd
    · rw [e1]
      have := mI_cnt (x := p.1) (l := l) fun q hq => (h q hq).t
      omega
  · have e1 := mB_norm f1
    have e2 := mB_dsum (l := l) (acc := []) n0
    have e3 := mB_le (c := 50 * 2 ^ k.dp) (l := l) fun p hp => by
      have q := h p hp
      have := q.m; have := q.t
      unfold mE; omega
    have e4 : l.length * (50 * 2 ^ k.dp) ≤ 6 * (50 * 2 ^ k.dp) := Nat.mul_le_mul_right _ hl
    simp only [mB] at e2
    simp only [ms, Kd.dp, Nat.pow_succ]; omega
section
variable {j n : Nat} {M : Mem}
def lw1 : SL := (.cons (.asg (.var 6) (.call "_law_value" (.cons (.var 0) (.cons (.idx (.var 1) (.k (.int 1))) .nil)) .nil [.inl 0, .inl 1]))
  (.cons (.ex (.met .append (.var 2) (.cons (.tup (.cons (.var 6) (.cons (.call "_law_pick" (.cons (.var 0) (.cons (.tup (.cons (.k (.int 1)) (.cons (.k (.int 2)) (.cons (.una .USub (.k (.int 1))) (.cons (.k (.int 1)) (.cons (.k (.int 3)) (.cons (.una .USub (.k (.int 2))) (.cons (.una .USub (.k (.int 3))) (.cons (.k (.int 4)) .nil))))))))) .nil)) .nil [.inl 0, .inl 1]) .nil))) .nil)))
  .nil))
theorem lvalue4_body : t__law_value.body = (.cons (.if_ (.cmp .Eq (.idx (.var 1) (.k (.int 0))) (.k (.str "unit")))
  (.cons (.ret (.tup .nil))
  .nil)
  .nil)
  (.cons (.if_ (.cmp .Eq (.idx (.var 1) (.k (.int 0))) (.k (.str "num")))
  (.cons (.ret (.call "_law_number" (.cons (.var 0) .nil) .nil [.inl 0]))
  .nil)
  .nil)
  (.cons (.if_ (.cmp .Eq (.idx (.var 1) (.k (.int 0))) (.k (.str "pair")))
  (.cons (.asg (.var 4) (.call "_law_value" (.cons (.var 0) (.cons (.idx (.var 1) (.k (.int 1))) .nil)) .nil [.inl 0, .inl 1]))
  (.cons (.ret (.tup (.cons (.k (.str "pair")) (.cons (.var 4) (.cons (.call "_law_value" (.cons (.var 0) (.cons (.idx (.var 1) (.k (.int 2))) .nil)) .nil [.inl 0, .inl 1]) .nil)))))
  .nil))
  .nil)
  (.cons (.if_ (.cmp .Eq (.idx (.var 1) (.k (.int 0))) (.k (.str "either")))
  (.cons (.asg (.var 5) (.call "_law_draw" (.cons (.var 0) (.cons (.k (.int 2)) .nil)) .nil [.inl 0, .inl 1]))
  (.cons (.ret (.tup (.cons (.idx (.tup (.cons (.k (.str "left")) (.cons (.k (.str "right")) .nil))) (.var 5)) (.cons (.call "_law_value" (.cons (.var 0) (.cons (.idx (.var 1) (.bin .Add (.k (.int 1)) (.var 5))) .nil)) .nil [.inl 0, .inl 1]) .nil))))
  .nil))
  .nil)
  (.cons (.asg (.var 2) (.lst true .nil))
  (.cons (.for_ (.var 3) (.rng1 (.call "_law_draw" (.cons (.var 0) (.cons (.k (.int 5)) .nil)) .nil [.inl 0, .inl 1])) lw1)
  (.cons (.ret (.call "_law_bag" (.cons (.idx (.var 1) (.k (.int 1))) (.cons (.var 2) .nil)) .nil [.inl 0, .inl 1]))
  .nil))))))) := rfl
structure LV4 (j : Nat) (k : Kd) (M : Mem) (i : Nat) (σ : St') (M' : Mem) (l : Bg) : Prop where
  len : l.length = i
  all : ∀ p ∈ l, E4 k p
  loc : ∃ t u, σ = [some (.obj j), some (enc (.bag k)), some (.obj M.length), t, none, none, u]
  cell : M'[M.length]? = some (.lst (l.map encE))
  mlen : M'.length = M.length + 1
  wl : W4 M' j
  fr : ∀ i, i ≠ j → i < M.length → M'[i]? = M[i]?
theorem S4.ext {j : Nat} {M M' : Mem} (h : S4 j M M') {i : Nat} {x : Cell} (hi : M[i]? = some x) (hj : i ≠ j) : M'[i]? = some x := by rw [h.3 i hj]; exact hi
theorem run_value4 (k : Kd) : ∀ {n : Nat} {M : Mem}, k.dt = true → W4 M j → k.dp ≤ 9 → k.dp + 3 ≤ n → ∃ v M', run P n (.fn "_law_value") [.obj j, enc k] M = .ok (encV v) M' ∧ D4 k v ∧ S4 j M M' := by
  induction k with
  | unit =>
    intro n M g w hk hn
    obtain ⟨n, rfl, hn⟩ := succ_of hn
    refine ⟨.unit, M, ?_, ⟨trivial, trivial, by decide, fun _ => by decide⟩, S4.refl w⟩
    refine run_pure l__law_value rfl rfl ?_ (und_encV _)
    simp [t__law_value, start', enc, encV, LIM]
  | num =>
    intro n M g w hk hn
    obtain ⟨n, rfl, hn⟩ := succ_of hn
    simp only [Kd.dp] at hn
    obtain ⟨i, M1, e1, b1, s1⟩ := run_number (n := n) w (by omega)
    refine ⟨.num i, M1, ?_, ⟨trivial, by simp only [bdV]; omega, by simp only [ms, Kd.dp]; omega, fun _ => by simp only [ms, Kd.dp]; omega⟩, s1⟩
    rw [run_step l__law_value rfl, ← leave_V (v := .num i) (M := M1) s1.1.symm]
    simp [t__law_value, start', enc, encV, LIM, en_call, en_dfl, d__law_number, arrange, pick, e1]
  | fn a b _ _ => intro n M g; simp [Kd.dt] at g
  | pair k l ihk ihl =>
    intro n M g w hk hn
    obtain ⟨n, rfl, hn⟩ := succ_of hn
    simp only [Kd.dt, Bool.and_eq_true] at g
    simp only [Kd.dp] at hn hk
    obtain ⟨a, M1, e1, d1, s1⟩ := ihk (n := n) (M := M) g.1 w (by omega) (by omega)
    obtain ⟨b, M2, e2, d2, s2⟩ := ihl (n := n) (M := M1) g.2 s1.2 (by omega) (by omega)
    have s := s1.trans s2
    refine ⟨.pair a b, M2, ?_, d4_pair d1 d2, s⟩
    rw [run_step l__law_value rfl, ← leave_V (v := .pair a b) (M := M2) s.1.symm]
    simp [t__law_value, start', enc, encV, LIM, en_call, en_dfl, d__law_value, arrange, pick, e1, e2]
  | either k l ihk ihl =>
    intro n M g w hk hn
    simp only [Kd.dt, Bool.and_eq_true] at g
    simp only [Kd.dp] at hn hk
    obtain ⟨n, rfl⟩ : ∃ m, n = m + 1 + 1 := ⟨n - 2, by omega⟩
    obtain ⟨r, M1, hr, r0, r1, s1⟩ := run_draw (n := n) (M := M) (m := 2) w (by decide) (by decide)
    obtain rfl | rfl : r = 0 ∨ r = 1 := by omega
    · obtain ⟨a, M2, e1, d1, s2⟩ := ihk (n := n + 1) (M := M1) g.1 s1.2 (by omega) (by omega)
      have s := s1.trans s2
      refine ⟨.left a, M2, ?_, d4_left d1, s⟩
      rw [run_step l__law_value rfl, ← leave_V (v := .left a) (M := M2) s.1.symm]
      simp [t__law_value, start', enc, encV, LIM, en_call, en_dfl, d__law_value, d__law_draw, arrange, pick, hr, e1]
    · obtain ⟨a, M2, e1, d1, s2⟩ := ihl (n := n + 1) (M := M1) g.2 s1.2 (by omega) (by omega)
      have s := s1.trans s2
      refine ⟨.right a, M2, ?_, d4_right d1, s⟩
      rw [run_step l__law_value rfl, ← leave_V (v := .right a) (M := M2) s.1.symm]
      simp [t__law_value, start', enc, encV, LIM, en_call, en_dfl, d__law_value, d__law_draw, arrange, pick, hr, e1]
  | bag k ihk =>
    intro n M g w hk hn
    have hp : k.pl = true := g
    simp only [Kd.dp] at hn hk
    obtain ⟨n, rfl⟩ : ∃ m, n = m + 1 + 1 := ⟨n - 2, by omega⟩
    have hj := w.lt
    have w0 : W4 (M ++ [Cell.lst []]) j := by
      obtain ⟨a, b, c, e, h⟩ := w
      exact ⟨a, b, c, e, by rw [List.getElem?_append_left hj]; exact h⟩
    obtain ⟨r, M1, hr, r0, r1, s1⟩ := run_draw (n := n) (M := M ++ [Cell.lst []]) (m := 5) w0 (by decide) (by decide)
    have ne : M.length ≠ j := by omega
    obtain ⟨σ2, M2, e2, l, inv⟩ := forW_inv (w := none) (all := rngL 0 r.toNat) (xs := rngL 0 r.toNat) (σ := [some (.obj j), some (enc (.bag k)), some (.obj M.length), none, none, none, none]) (M := M1)
      (Inv := fun i σ M' => ∃ l, LV4 j k M i σ M' l)
      (g := fun d σ M => asT (P.en (run P (n + 1))) (.var 3) d σ M) (f := fun σ M => exs (P.en (run P (n + 1))) lw1 σ M)
      (fun _ _ _ _ _ => chkW_none)
      (fun i d σ M' hd inv => by
        obtain ⟨l, inv⟩ := inv
        obtain ⟨t, u, rfl⟩ := inv.loc
        have hi := (rngL_get hd).2
        obtain ⟨v, M3, e3, d3, s3⟩ := ihk (n := n + 1) (M := M') (pl_dt hp) inv.wl (by omega) (by omega)
        obtain ⟨z, M4, e4, z4, s4⟩ := run_pick (n := n + 1) (M := M3) (l := [.int 1, .int 2, .int (-1), .int 1, .int 3, .int (-2), .int (-3), .int 4]) s3.2 (by simp) (by decide) (by simp [unds, D.und]) (by omega)
        obtain ⟨x, rfl, hx⟩ : ∃ i : Int, z = .int i ∧ mI i ≤ 5 := by
          simp only [List.mem_cons, List.not_mem_nil, or_false] at z4
          rcases z4 with h | h | h | h | h | h | h | h <;> exact ⟨_, h, by decide +kernel⟩
        obtain ⟨p, hp1, rfl⟩ := emb_has hp d3.hs
        rw [enc_emb] at e3
        have s := s3.trans s4
        have c4 := s.ext inv.cell ne
        have hl : l.length < 1000 := by rw [inv.len]; omega
        have ap : metD .append (.obj M.length) [.tup [encP p, .int x]] M4 = .ok .non (M4.set M.length (.lst ((l ++ [(p, x)]).map encE))) := by
          have q : (l.map encE).length < LIM := by simp only [List.length_map]; show _ < 1000000; omega
          have u : (D.tup [encP p, .int x]).und M.length = true := und_encE (p, x)
          simp only [metD, c4, q, u, decide_true, Bool.and_self, if_true, List.map_append, List.map_cons, List.map_nil, encE]
        have rc : recD .append M3 (.obj M.length) = true := by simp only [recD, s3.ext inv.cell ne]
        refine ⟨[some (.obj j), some (enc (.bag k)), some (.obj M.length), some d, none, none, u], M', by simp, [some (.obj j), some (enc (.bag k)), some (.obj M.length), some d, none, none, some (encP p)], M4.set M.length (.lst ((l ++ [(p, x)]).map encE)), ?_, l ++ [(p, x)], ?_⟩
        · simp only [lw1]
          simp [enc, rc, en_call, en_dfl, d__law_value, d__law_pick, arrange, pick, e3, LIM, e4, ap]
        · have m4 : M4.length = M.length + 1 := by rw [s.1]; exact inv.mlen
          refine ⟨by simp [inv.len], fun q hq => ?_, ⟨_, _, rfl⟩, at_set (by omega), by simpa using m4, ?_, fun i hi hlt => ?_⟩
          · rcases List.mem_append.mp hq with hq | hq
            · exact inv.all q hq
            · simp only [List.mem_singleton] at hq
              subst hq
              exact ⟨hp1, (bd_emb p).mp d3.bd, hx, by have := d3.m1 hp; rw [ms_emb] at this; exact this⟩
          · obtain ⟨a, b, c, e, h⟩ := s.2
            exact ⟨a, b, c, e, by rw [List.getElem?_set_ne ne]; exact h⟩
          · rw [List.getElem?_set_ne (by omega), s.3 i hi]
            exact inv.fr i hi hlt)
      ⟨[], rfl, fun _ h => (nomatch h), ⟨_, _, rfl⟩, by rw [s1.3 _ ne]; simp, by rw [s1.1]; simp, s1.2, fun i hi hlt => by rw [s1.3 i hi, List.getElem?_append_left hlt]⟩
    obtain ⟨t, u, rfl⟩ := inv.loc
    have hl : l.length ≤ 4 := by rw [inv.len, rngL_len]; omega
    have cl : ∀ c, (M2 ++ [c])[M.length]? = some (.lst (l.map encE)) := fun c => by rw [List.getElem?_append_left (by rw [inv.mlen]; omega)]; exact inv.cell
    have lb := run_lbag4 (k := k) (l := l) (x := .obj M.length) (w := some M.length) (n := n + 1) (M := M2) hp (fun p hp => (inv.all p hp).hs) (by omega) (by omega) (fun c => by simp only [walkV, cl]) (fun c => chkW_some (cl c))
    have lt : (M2.take M.length).length = M.length := by rw [List.length_take, inv.mlen]; omega
    refine ⟨.bag (norm (dsum [] l)), M2.take M.length, ?_, d4_bag inv.all (by omega), ⟨lt, ?_, fun i hi => ?_⟩⟩
    · refine run_ret l__law_value rfl rfl ?_ (und_encV _)
      have rg : ∀ M, rng1V (.int r) M = .ok (rngL 0 r.toNat, none) M := fun M => rng1_ok (by omega) (by omega)
      have N6 : start' t__law_value.N [.obj j, enc (.bag k)] = [some (.obj j), some (enc (.bag k)), none, none, none, none, none] := rfl
      rw [lvalue4_body, N6]
      simp only [enc, asT_var] at e2 ⊢
      simp [encV, LIM, en_call, en_dfl, d__law_draw, d__law_bag, arrange, pick, hr, rg, e2, lb]
    · obtain ⟨a, b, c, e, h⟩ := inv.wl
      exact ⟨a, b, c, e, by rw [List.getElem?_take_of_lt hj]; exact h⟩
    · by_cases q : i < M.length
      · rw [List.getElem?_take_of_lt q]; exact inv.fr i hi q
      · rw [List.getElem?_eq_none (by omega), List.getElem?_eq_none (by omega)]
end
theorem run_lsame {x : D} {m n : Nat} {M : Mem} (h : shw m x = true) (hm : m ≤ 60) (hl : mD x ≤ LIM) (hn : 1 ≤ n) : run P n (.fn "_law_same") [x, x] M = .ok (.bl true) M := by
  obtain ⟨n, rfl, _⟩ := succ_of (m := 0) hn
  obtain ⟨s, _, h2⟩ := repr_ok (call := (P.en (run P n)).call) h hm hl
  refine run_pure l__law_same rfl rfl ?_ und_bl
  have N2 : start' t__law_same.N [x, x] = [some x, some x] := rfl
  rw [N2]
  simp [t__law_same, h2]
theorem run_lsameL {C n : Nat} {l : List D} {M : Mem} (h : ∀ d ∈ l, Sw C d) (hC : 3 + l.length * (C + 2) ≤ 1000000) (hn : 20 ≤ n) : run P n (.fn "_law_same") [.lst l, .lst l] M = .ok (.bl true) M :=
  run_lsame (m := 11) (shw_all fun d hd => (h d hd).s) (by omega) (Nat.le_trans (by simp only [mD]; have := mDs_le fun d hd => (h d hd).m; omega) hC) (by omega)
theorem run_lzero4 {k : Kd} (g : k.gr = true) : ∀ {n : Nat} {M : Mem}, k.dp ≤ n → run P n (.fn "_law_zero") [enc k] M = .ok (encV (vzero k)) M := by
  revert g
  refine gr_ind (C := fun k => ∀ {n : Nat} {M : Mem}, k.dp ≤ n → run P n (.fn "_law_zero") [enc k] M = .ok (encV (vzero k)) M) ?_ ?_ ?_ k
  · intro n M hn
    obtain ⟨n, rfl⟩ : ∃ m, n = m + 1 := ⟨n - 1, by simp only [Kd.dp] at hn; omega⟩
    refine run_pure l__law_zero rfl rfl ?_ (und_encV _)
    simp [t__law_zero, start', enc, encV, vzero]
  · intro k hp n M hn
    obtain ⟨n, rfl, hn⟩ := succ_of hn
    refine run_pure l__law_zero rfl rfl ?_ (und_encV _)
    simp [t__law_zero, start', enc, encV, vzero, LIM]
  · intro k l _ _ ihk ihl n M hn
    obtain ⟨n, rfl, hn⟩ := succ_of hn
    have i1 := fun M => ihk (n := n) (M := M) (by omega)
    have i2 := fun M => ihl (n := n) (M := M) (by omega)
    refine run_pure l__law_zero rfl rfl ?_ (und_encV _)
    simp [t__law_zero, start', enc, encV, vzero, LIM, en_call, en_dfl, d__law_zero, arrange, pick, i1, i2]
theorem run_lsum {k : Kd} (g : k.gr = true) : ∀ {a b : Vl} {n : Nat} {M : Mem}, has k a → has k b → ms a + ms b ≤ 900000 → k.dp + 1 ≤ n → run P n (.fn "_law_sum") [enc k, encV a, encV b] M = .ok (encV (vplus a b)) M := by
  revert g
  refine gr_ind (C := fun k => ∀ {a b : Vl} {n : Nat} {M : Mem}, has k a → has k b → ms a + ms b ≤ 900000 → k.dp + 1 ≤ n → run P n (.fn "_law_sum") [enc k, encV a, encV b] M = .ok (encV (vplus a b)) M) ?_ ?_ ?_ k
  · intro a b n M ha hb hm hn
    obtain ⟨n, rfl, hn⟩ := succ_of hn
    obtain ⟨x, rfl⟩ := has_num ha
    obtain ⟨y, rfl⟩ := has_num hb
    refine run_pure l__law_sum rfl rfl ?_ (und_encV _)
    simp [t__law_sum, start', enc, encV, vplus]
  · intro k hp a b n M ha hb hm hn
    obtain ⟨n, rfl, hn⟩ := succ_of hn
    obtain ⟨x, rfl, b1⟩ := has_bag ha
    obtain ⟨y, rfl, b2⟩ := has_bag hb
    simp only [ms] at hm
    have l1 := mB_len (a := x)
    have l2 := mB_len (a := y)
    have ad : ∀ M, binD .Add (.tup (x.map encE)) (.tup (y.map encE)) M = .ok (.tup ((x ++ y).map encE)) M := fun M => by
      rw [add_tt (by simp only [List.length_map]; show _ ≤ 1000000; omega), List.map_append]
    have lb := fun M => run_lbag4 (k := k) (l := x ++ y) (x := .tup ((x ++ y).map encE)) (w := none) (n := n) (M := M) hp (fun p hp => by
      rcases List.mem_append.mp hp with h | h
      · exact b1.ty p h
      · exact b2.ty p h) (by simp only [Kd.dp] at hn; omega) (by simp only [List.length_append]; omega) (fun _ => rfl) (fun _ => chkW_none)
    have e : norm (dsum [] (x ++ y)) = bplus x y := by
      rw [dsum_append, show dsum [] x = x from by rw [dsum_new (by simpa using b1.nodup)]; rfl]; rfl
    rw [e] at lb
    refine run_pure l__law_sum rfl rfl ?_ (und_encV _)
    simp only [encV, vplus]
    simp [-List.map_append, t__law_sum, start', enc, en_call, en_dfl, d__law_bag, arrange, pick, ad, lb]
  · intro k l _ _ ihk ihl a b n M ha hb hm hn
    obtain ⟨n, rfl, hn⟩ := succ_of hn
    obtain ⟨a1, a2, rfl, h1, h2⟩ := has_pair ha
    obtain ⟨b1, b2, rfl, h3, h4⟩ := has_pair hb
    simp only [Kd.dp] at hn
    simp only [ms] at hm
    have i1 := fun M => ihk (n := n) (M := M) h1 h3 (by omega) (by omega)
    have i2 := fun M => ihl (n := n) (M := M) h2 h4 (by omega) (by omega)
    refine run_pure l__law_sum rfl rfl ?_ (und_encV _)
    simp [t__law_sum, start', LIM, enc, encV, vplus, en_call, en_dfl, d__law_sum, arrange, pick, i1, i2]
theorem run_lmany4 {i : Int} (h64 : i64 i = true) {k : Kd} (g : k.gr = true) : ∀ {a : Vl} {n : Nat} {M : Mem}, has k a → ms a ≤ LIM → k.dp ≤ n → run P n (.fn "_law_many") [enc k, .int i, encV a] M = .ok (encV (vtimes i a)) M := by
  have mu : ∀ z M, binD .Mult (.int i) (.int z) M = .ok (.int (i * z)) M := fun z M => mul_l h64
  revert g
  refine gr_ind (C := fun k => ∀ {a : Vl} {n : Nat} {M : Mem}, has k a → ms a ≤ LIM → k.dp ≤ n → run P n (.fn "_law_many") [enc k, .int i, encV a] M = .ok (encV (vtimes i a)) M) ?_ ?_ ?_ k
  · intro a n M ha hm hn
    obtain ⟨n, rfl⟩ : ∃ m, n = m + 1 := ⟨n - 1, by simp only [Kd.dp] at hn; omega⟩
    obtain ⟨z, rfl⟩ := has_num ha
    refine run_pure l__law_many rfl rfl ?_ (und_encV _)
    simp [t__law_many, start', enc, encV, vtimes, mu]
  · intro k hpl a n M ha hm hn
    obtain ⟨n, rfl, hn⟩ := succ_of hn
    obtain ⟨x, rfl, b1⟩ := has_bag ha
    simp only [ms] at hm
    have l1 := mB_len (a := x)
    refine run_pure l__law_many rfl rfl ?_ (und_encV _)
    by_cases h0 : i = 0
    · simp [t__law_many, start', enc, encV, vtimes, btimes, h0, LIM]
    · have N4 : start' t__law_many.N [enc (.bag k), .int i, .tup (x.map encE)] = [some (enc (.bag k)), some (.int i), some (.tup (x.map encE)), none, none] := rfl
      simp only [encV, vtimes, btimes]
      rw [N4, if_pos h0]
      simp [t__law_many, enc, h0, -ev_comp]
      simp only [ev_comp, evi_val, ev_var, List.getElem?_cons_zero, List.getElem?_cons_succ, Res.bind_ok, walk_tup, wipe', List.map_cons, List.map_nil, List.set_cons_succ, List.set_cons_zero]
      rw [compL_mapB (h := encE) (φ := fun p => encE (p.1, i * p.2)) (l := x)]
      · simp only [List.nil_append, fresh_f, Res.bind_ok, bltD, lrOf, evs_nil] <;> rfl
      · intro p hp
        refine ⟨[some (.tup [.str "bag", enc k]), some (.int i), some (.tup (x.map encE)), some (encP p.1), some (.int p.2)], by simp [encE, TL.len], by simp, ?_⟩
        simp [mu, encE, LIM]
      · simp only [List.length_nil, Nat.zero_add]; omega
  · intro k l _ _ ihk ihl a n M ha hm hn
    obtain ⟨n, rfl, hn⟩ := succ_of hn
    obtain ⟨a1, a2, rfl, h1, h2⟩ := has_pair ha
    simp only [ms] at hm
    have i1 := fun M => ihk (n := n) (M := M) h1 (by omega) (by omega)
    have i2 := fun M => ihl (n := n) (M := M) h2 (by omega) (by omega)
    refine run_pure l__law_many rfl rfl ?_ (und_encV _)
    simp [t__law_many, start', LIM, enc, encV, vtimes, en_call, en_dfl, d__law_many, arrange, pick, i1, i2]
end Cw

set_option Elab.async false
set_option linter.all false
set_option maxRecDepth 100000
set_option maxHeartbeats 1000000
/-! QA: times_by, less_by, the law's times and differences. -/
namespace Cw
open Ev
open PySem (Str PyData)
theorem i64_small {i : Int} (h : i.natAbs < 1000) : i64 i = true := by unfold i64; exact decide_eq_true ⟨by omega, by omega⟩
theorem run_times_by64 {i : Int} (h64 : i64 i = true) {k : Kd} (g : k.gr = true) : ∀ {a : Vl} {n : Nat} {M : Mem}, has k a → ms a ≤ LIM → k.dp + 1 ≤ n → run P n (.fn "times_by") [.int i, encV a] M = .ok (encV (vtimes i a)) M := by
  have mu : ∀ z M, binD .Mult (.int i) (.int z) M = .ok (.int (i * z)) M := fun z M => mul_l h64
  revert g
  refine gr_ind (C := fun k => ∀ {a : Vl} {n : Nat} {M : Mem}, has k a → ms a ≤ LIM → k.dp + 1 ≤ n → run P n (.fn "times_by") [.int i, encV a] M = .ok (encV (vtimes i a)) M) ?_ ?_ ?_ k
  · intro a n M ha hm hn
    obtain ⟨n, rfl, hn⟩ := succ_of hn
    obtain ⟨z, rfl⟩ := has_num ha
    refine run_pure l_times_by rfl rfl ?_ (und_encV _)
    simp [t_times_by, start', encV, vtimes, isi_int, mu]
  · intro k hpl a n M ha hm hn
    obtain ⟨n, rfl, hn⟩ := succ_of hn
    obtain ⟨x, rfl, b1⟩ := has_bag ha
    simp only [ms] at hm
    have l1 := mB_len (a := x)
    have ip := fun M => run_is_paired_b (l := x) (n := n) (M := M) (by simp only [Kd.dp] at hn; omega)
    refine run_pure l_times_by rfl rfl ?_ (und_encV _)
    by_cases h0 : i = 0
    · simp [t_times_by, start', encV, vtimes, btimes, isi_tupi, h0, en_call, en_dfl, d_is_paired, arrange, pick, ip, LIM]
    · have N4 : start' t_times_by.N [.int i, .tup (x.map encE)] = [some (.int i), some (.tup (x.map encE)), none, none] := rfl
      simp only [encV, vtimes, btimes]
      rw [N4, if_pos h0]
      simp [t_times_by, isi_tupi, h0, en_call, en_dfl, d_is_paired, arrange, pick, ip, -ev_comp]
      simp only [ev_comp, evi_val, ev_var, List.getElem?_cons_zero, List.getElem?_cons_succ, Res.bind_ok, walk_tup, wipe', List.map_cons, List.map_nil, List.set_cons_succ, List.set_cons_zero]
      rw [compL_mapB (h := encE) (φ := fun p => encE (p.1, i * p.2)) (l := x)]
      · simp only [List.nil_append, fresh_f, Res.bind_ok, bltD, lrOf, evs_nil] <;> rfl
      · intro p hp
        refine ⟨[some (.int i), some (.tup (x.map encE)), some (encP p.1), some (.int p.2)], by simp [encE, TL.len], by simp, ?_⟩
        simp [mu, encE, LIM]
      · simp only [List.length_nil, Nat.zero_add]; omega
  · intro k l _ _ ihk ihl a n M ha hm hn
    obtain ⟨n, rfl, hn⟩ := succ_of hn
    obtain ⟨a1, a2, rfl, h1, h2⟩ := has_pair ha
    simp only [Kd.dp] at hn
    simp only [ms] at hm
    have ip := fun M => run_is_paired_p (a := a1) (b := a2) (n := n) (M := M) (by omega)
    have i1 := fun M => ihk (n := n) (M := M) h1 (by omega) (by omega)
    have i2 := fun M => ihl (n := n) (M := M) h2 (by omega) (by omega)
    refine run_pure l_times_by rfl rfl ?_ (und_encV _)
    simp [t_times_by, start', LIM, encV, vtimes, isi_tupi, en_call, en_dfl, d_is_paired, d_times_by, arrange, pick, ip, i1, i2]
theorem run_times_by {i : Int} (hi : i.natAbs < 1000) {k : Kd} (g : k.gr = true) : ∀ {a : Vl} {n : Nat} {M : Mem}, has k a → ms a ≤ LIM → k.dp + 1 ≤ n → run P n (.fn "times_by") [.int i, encV a] M = .ok (encV (vtimes i a)) M :=
  run_times_by64 (i64_small hi) g
/-- so many times a value by the law: number 0 lets a bag of zeros go -/
theorem norm_times {k : Kd} {x : Bg} {i : Int} (b : IsBag k x) (h : i ≠ 0) : norm (dsum [] (x.map fun p => (p.1, i * p.2))) = btimes i x := by
  have b2 : IsBag k (x.map fun p => (p.1, i * p.2)) := by
    have := btimes_bag (n := i) b
    unfold btimes at this
    rw [if_pos h] at this
    exact this
  have e1 : btimes i x = x.map fun p => (p.1, i * p.2) := by unfold btimes; rw [if_pos h]
  rw [e1, dsum_new (by simpa using b2.nodup), List.nil_append]
  refine bag_ext (norm_bag b2.nodup b2.ty) b2 fun y => cnt_norm b2.nodup
end Cw

set_option Elab.async false
set_option linter.all false
set_option maxRecDepth 100000
set_option maxHeartbeats 1000000
/-! QB: less_by, the law's differences. -/
namespace Cw
open Ev
open PySem (Str PyData)
end Cw

set_option Elab.async false
set_option linter.all false
set_option maxRecDepth 100000
set_option maxHeartbeats 1000000
/-! QD: zero_by, nothing_by, nothing. -/
namespace Cw
open Ev
open PySem (Str PyData)
theorem run_zero_by {k : Kd} (g : k.gr = true) : ∀ {n : Nat} {M : Mem}, k.dp ≤ n → run P n (.fn "zero_by") [enc k] M = .ok (encV (vzero k)) M := by
  revert g
  refine gr_ind (C := fun k => ∀ {n : Nat} {M : Mem}, k.dp ≤ n → run P n (.fn "zero_by") [enc k] M = .ok (encV (vzero k)) M) ?_ ?_ ?_ k
  · intro n M hn
    obtain ⟨n, rfl, hn⟩ := succ_of hn
    refine run_pure l_zero_by rfl rfl ?_ (und_encV _)
    simp [t_zero_by, start', LIM, enc, encV, vzero]
  · intro k _ n M hn
    obtain ⟨n, rfl, hn⟩ := succ_of hn
    refine run_pure l_zero_by rfl rfl ?_ (und_encV _)
    simp [t_zero_by, start', LIM, enc, encV, vzero]
  · intro k l _ _ ihk ihl n M hn
    obtain ⟨n, rfl, hn⟩ := succ_of hn
    have i1 := fun M => ihk (n := n) (M := M) (by omega)
    have i2 := fun M => ihl (n := n) (M := M) (by omega)
    refine run_pure l_zero_by rfl rfl ?_ (und_encV _)
    simp [t_zero_by, start', LIM, enc, encV, vzero, en_call, en_dfl, d_zero_by, arrange, pick, i1, i2]
end Cw

set_option Elab.async false
set_option linter.all false
set_option maxRecDepth 100000
set_option maxHeartbeats 1000000
/-! RE: values.py: sums, times, order. -/
namespace Cw
open Ev
open PySem (Str PyData)
theorem run_is_group (k : Kd) : ∀ n M, k.gr = true → k.dp ≤ n → run P n (.fn "is_group") [enc k] M = .ok (.bl true) M := by
  induction k with
  | pair a b iha ihb =>
    intro n M g h; obtain ⟨n, rfl, h⟩ := succ_of h
    simp only [Kd.gr, Bool.and_eq_true] at g
    have h2 := fun M => iha n M g.1 (by omega)
    have h3 := fun M => ihb n M g.2 (by omega)
    refine run_pure l_is_group rfl rfl ?_ und_bl
    simp [t_is_group, start', wipe', LIM, enc, isIn, h2, h3, compL_cons, en_call, en_dfl, d_is_group, arrange, pick]
  | bag a _ => intro n M _ h; obtain ⟨n, rfl, h⟩ := succ_of h; refine run_pure l_is_group rfl rfl ?_ und_bl; simp [t_is_group, start', wipe', LIM, enc, isIn]
  | num => intro n M _ h; obtain ⟨n, rfl, h⟩ := succ_of h; refine run_pure l_is_group rfl rfl ?_ und_bl; simp [t_is_group, start', wipe', LIM, enc, isIn]
  | unit => intro n M g; simp [Kd.gr] at g
  | either a b _ _ => intro n M g; simp [Kd.gr] at g
  | fn a b _ _ => intro n M g; simp [Kd.gr] at g
section
variable {k : Kd} {v w : Vl} {n : Nat} {M : Mem}
theorem run_check_group (g : k.gr = true) (hd : k.dp ≤ 100) (hn : k.dp + 2 ≤ n) : run P n (.fn "check_kind_that") [enc k, .fn "is_group"] M = .ok .non M :=
  run_check_that (dt_wf (gr_dt g)) hd hn fun n M h => run_is_group k n M g h
theorem run_check_plain (g : k.pl = true) (hd : k.dp ≤ 100) (hn : k.dp + 2 ≤ n) : run P n (.fn "check_kind_that") [enc k, .fn "is_plain"] M = .ok .non M :=
  run_check_that (dt_wf (pl_dt g)) hd hn fun n M h => by rw [run_is_plain k n M h, g]
theorem run_zero_of (g : k.gr = true) (hd : k.dp ≤ 9) (hn : k.dp + 8 ≤ n) : run P n (.fn "zero_of") [enc k] M = .ok (encV (vzero k)) M := by
  obtain ⟨n, rfl, hn⟩ := succ_of hn
  have i1 := fun M => run_check_group g (M := M) (n := n) (by omega) (by omega)
  have i2 := fun M => run_zero_by g (M := M) (n := n) (by omega)
  refine run_pure l_zero_of rfl rfl ?_ (und_encV _)
  simp [t_zero_of, start', en_call, en_dfl, d_check_kind_that, d_zero_by, arrange, pick, i1, i2]
theorem run_sum_of (g : k.gr = true) (hv : has k v) (hw : has k w) (hm : ms v + ms w ≤ LIM) (hd : k.dp ≤ 9) (hn : k.dp + 8 ≤ n) : run P n (.fn "sum_of") [enc k, encV v, encV w] M = .ok (encV (vplus v w)) M := by
  obtain ⟨n, rfl, hn⟩ := succ_of hn
  have i1 := fun M => run_check_group g (M := M) (n := n) (by omega) (by omega)
  have i2 := fun M => run_check_value (k := k) (v := v) (M := M) (n := n) hv (by omega) (by omega) (by omega)
  have i3 := fun M => run_check_value (k := k) (v := w) (M := M) (n := n) hw (by omega) (by omega) (by omega)
  have i4 := fun M => run_plus_by g (M := M) (n := n) hv hw hm hd (by omega)
  refine run_pure l_sum_of rfl rfl ?_ (und_encV _)
  simp [t_sum_of, start', en_call, en_dfl, d_check_kind_that, d_check_value, d_plus_by, arrange, pick, i1, i2, i3, i4]
theorem run_opposite (g : k.gr = true) (hv : has k v) (hm : ms v ≤ LIM) (hd : k.dp ≤ 9) (hn : k.dp + 8 ≤ n) : run P n (.fn "opposite") [enc k, encV v] M = .ok (encV (vtimes (-1) v)) M := by
  obtain ⟨n, rfl, hn⟩ := succ_of hn
  have i1 := fun M => run_check_group g (M := M) (n := n) (by omega) (by omega)
  have i2 := fun M => run_check_value (k := k) (v := v) (M := M) (n := n) hv (by omega) (by omega) (by omega)
  have i4 := fun M => run_times_by (i := -1) (by decide) g (M := M) (n := n) hv hm (by omega)
  refine run_pure l_opposite rfl rfl ?_ (und_encV _)
  simp [t_opposite, start', en_call, en_dfl, d_check_kind_that, d_check_value, d_times_by, arrange, pick, i1, i2, i4]
theorem run_many_of {i : Int} (hi : i64 i = true) (g : k.gr = true) (hv : has k v) (hm : ms v ≤ LIM) (hd : k.dp ≤ 9) (hn : k.dp + 8 ≤ n) : run P n (.fn "many_of") [enc k, .int i, encV v] M = .ok (encV (vtimes i v)) M := by
  obtain ⟨n, rfl, hn⟩ := succ_of hn
  have i1 := fun M => run_check_group g (M := M) (n := n) (by omega) (by omega)
  have i2 := fun M => run_check_value (k := k) (v := v) (M := M) (n := n) hv (by omega) (by omega) (by omega)
  have i4 := fun M => run_times_by64 hi g (M := M) (n := n) hv hm (by omega)
  have i3 : ∀ M, run P n (.fn "check_whole") [.int i] M = .ok .non M := fun M => by
    obtain ⟨n, rfl⟩ : ∃ m, n = m + 1 := ⟨n - 1, by omega⟩
    have j1 := fun M => run_is_whole (i := i) (n := n) (M := M) (by omega)
    rw [run_step l_check_whole rfl]
    simp [t_check_whole, start', en_call, en_dfl, d_is_whole, arrange, pick, j1]
  refine run_pure l_many_of rfl rfl ?_ (und_encV _)
  simp [t_many_of, start', en_call, en_dfl, d_check_kind_that, d_check_whole, d_check_value, d_times_by, arrange, pick, i1, i2, i3, i4]
theorem run_is_value_yes (g : k.dt = true) (hv : has k v) (hm : ms v ≤ LIM) (hd : k.dp ≤ 9) (hn : k.dp + 8 ≤ n) : run P n (.fn "is_value") [enc k, encV v] M = .ok (.bl true) M := by
  obtain ⟨n, rfl, hn⟩ := succ_of hn
  have i1 := fun M => run_check_data (M := M) (n := n) g (by omega) (by omega)
  have i2 := fun M => run_is_valued k v n M hv hm (by omega) (by omega)
  refine run_pure l_is_value rfl rfl ?_ und_bl
  simp [t_is_value, start', en_call, en_dfl, d_check_data, d_is_valued, arrange, pick, i1, i2]
theorem cmp_eqP {a b : Pv} (ha : hasP k a = true) (hk : k.dp ≤ 59) : cmpD .Eq (encP a) (encP b) M = .ok (.bl (decide (a = b))) M := by
  have h := cmp_eqV (k := k) (a := emb a) (b := emb b) (M := M) (has_emb ha) hk
  rw [enc_emb, enc_emb] at h
  rw [h, ← eqD_py (pl_encP a) (pl_encP b) (py_encP a) (py_encP b), eqv_pyP]
theorem run_order {a b : Pv} (g : k.pl = true) (ha : hasP k a = true) (hb : hasP k b = true) (m1 : mP a ≤ LIM) (m2 : mP b ≤ LIM) (hd : k.dp ≤ 9) (hn : k.dp + 8 ≤ n) : run P n (.fn "order") [enc k, encP a, encP b] M = .ok (.int (sgn a b)) M := by
  obtain ⟨n, rfl, hn⟩ := succ_of hn
  have i1 := fun M => run_check_plain g (M := M) (n := n) (by omega) (by omega)
  have i2 := fun M => run_check_value (k := k) (v := emb a) (M := M) (n := n) (has_emb ha) (by rw [ms_emb]; exact m1) (by omega) (by omega)
  have i3 := fun M => run_check_value (k := k) (v := emb b) (M := M) (n := n) (has_emb hb) (by rw [ms_emb]; exact m2) (by omega) (by omega)
  simp only [enc_emb] at i2 i3
  have ce := fun M => cmp_eqP (M := M) (b := b) ha (by omega)
  have cl := fun M => cmp_plt (M := M) ha hb (by omega)
  refine run_pure l_order rfl rfl ?_ rfl
  unfold sgn
  by_cases e : a = b
  · simp [t_order, start', en_call, en_dfl, d_check_kind_that, d_check_value, arrange, pick, i1, i2, i3, ce, e]
    rw [e] at i2 ce; simp [i2, i3, ce]
  · cases e2 : plt a b <;> rw [e2] at cl <;> simp [t_order, start', en_call, en_dfl, d_check_kind_that, d_check_value, arrange, pick, i1, i2, i3, ce, e, cl]
end
end Cw

set_option Elab.async false
set_option linter.all false
set_option maxRecDepth 100000
set_option maxHeartbeats 1000000
/-! QO: is_valued, is_change_by of things of any kind. -/
namespace Cw
open Ev
open PySem (Str PyData)
theorem run_is_whole_any {d : D} {n : Nat} {M : Mem} (h : tame d = true) (hn : 1 ≤ n) : run P n (.fn "is_whole") [d] M = .ok (.bl (isInt d)) M := by
  obtain ⟨n, rfl, hn⟩ := succ_of (m := 0) hn
  have i1 := fun M call => isi_I (M := M) (call := call) h
  have i2 := fun M call => isi_B (M := M) (call := call) h
  refine run_pure l_is_whole rfl rfl ?_ und_bl
  cases d <;> first | (simp [tame] at h; done) | simp [t_is_whole, start', i1, i2, isInt, isBl]
theorem get_LR {w : Str} {M : Mem} : metD .get LR [.str w, .int 0] M = .ok (if ("left" : Str) = w then .int 1 else if ("right" : Str) = w then .int 2 else .int 0) M := by
  unfold LR
  rw [get_dct rfl]
  simp only [kget_cons, kget_nil, D.nk, PySem.NestedKey.text.injEq]
  congr 1
  repeat' split
  all_goals rfl
section
variable {k : Kd} {m : Nat}
theorem is_counted_of (hk : k.pl = true) (ih : ∀ (d : D) (n : Nat) (M : Mem), tame d = true → m ≤ n → run P n (.fn "is_valued") [enc k, d] M = .ok (.bl (vb k d)) M) {d : D} {n : Nat} {M : Mem} (h : tame d = true) (hm : 1 ≤ m) (hn : m + 1 ≤ n) : run P n (.fn "is_counted") [enc k, d] M = .ok (.bl (cb k d)) M := by
  obtain ⟨n, rfl, hn⟩ := succ_of hn
  have it := fun M call => isi_T (M := M) (call := call) h
  refine run_pure l_is_counted rfl rfl ?_ und_bl
  cases hT : d.isTup with
  | false =>
    rw [hT] at it
    rw [cb_no fun x y e => by rw [e] at hT; simp [D.isTup] at hT]
    simp [t_is_counted, start', LIM, it]
  | true =>
    obtain ⟨l, rfl⟩ := isTup_iff.mp hT
    rw [hT] at it
    have ht := (tame_tup.mp h).2
    rcases l with _ | ⟨x, _ | ⟨y, _ | ⟨z, r⟩⟩⟩
    · rw [cb_no fun x y e => by simp at e]; simp [t_is_counted, start', LIM, it]
    · rw [cb_no fun x y e => by simp at e]; simp [t_is_counted, start', LIM, it]
    · have h1 := fun M => ih x n M (ht _ (by simp)) (by omega)
      have h2 := fun M => run_is_whole_any (d := y) (n := n) (M := M) (ht _ (by simp)) (by omega)
      rw [cb_two hk]
      cases e : vb k x with
      | false => rw [e] at h1; simp [t_is_counted, start', LIM, it, en_call, en_dfl, d_is_valued, d_is_whole, arrange, pick, h1, h2]
      | true => rw [e] at h1; simp [t_is_counted, start', LIM, it, en_call, en_dfl, d_is_valued, d_is_whole, arrange, pick, h1, h2]
    · rw [cb_no fun x y e => by simp at e]
      have : ¬ ((r.length : Int) + 1 + 1 + 1 = 2) := by omega
      simp [t_is_counted, start', LIM, it, this]
theorem all_bl {call : D → List D → Mem → Res D} {M : Mem} {α : Type} {f : α → Bool} {l : List α} : bltD call .all [.lst (l.map fun x => D.bl (f x))] M = .ok (.bl (l.all f)) M := by
  have := all_of (bs := l.map f) (call := call) (M := M)
  rw [List.map_map, List.all_map] at this
  exact this
theorem zip_nxt : ∀ {b : Bg}, ∃ f : List ((Pv × Int) × (Pv × Int)), zipL (b.map encE) ((b.map encE).drop 1) = f.map (fun x => .wtp [encE x.1, encE x.2]) ∧ f.length ≤ b.length ∧ (∀ x ∈ f, x.1 ∈ b ∧ x.2 ∈ b) ∧ f.all (fun x => plt x.1.1 x.2.1) = asc b
  | [] => ⟨[], rfl, Nat.le_refl _, fun _ h => (nomatch h), rfl⟩
  | [p] => ⟨[], rfl, Nat.zero_le _, fun _ h => (nomatch h), rfl⟩
  | p :: q :: r => by
    obtain ⟨f, e, l, m, a⟩ := zip_nxt (b := q :: r)
    refine ⟨(p, q) :: f, ?_, by simp only [List.length_cons] at *; omega, fun x hx => ?_, by simp only [List.all_cons, asc, a]⟩
    · simp only [List.map_cons, List.drop_succ_cons, List.drop_zero, zipL] at e ⊢
      rw [e]
    · rcases List.mem_cons.mp hx with rfl | hx
      · exact ⟨List.mem_cons_self, List.mem_cons_of_mem _ List.mem_cons_self⟩
      · exact ⟨List.mem_cons_of_mem _ (m x hx).1, List.mem_cons_of_mem _ (m x hx).2⟩
theorem are_counted_of (hk : k.pl = true) (ih : ∀ (d : D) (n : Nat) (M : Mem), tame d = true → m ≤ n → run P n (.fn "is_valued") [enc k, d] M = .ok (.bl (vb k d)) M) {l : List D} {n : Nat} {M : Mem} (h : tame (.tup l) = true) (hd : k.dp ≤ 60) (hm : 1 ≤ m) (hn : m + 2 ≤ n) : run P n (.fn "are_counted") [enc k, .tup l] M = .ok (.bl (vb (.bag k) (.tup l))) M := by
  obtain ⟨n, rfl, hn⟩ := succ_of hn
  obtain ⟨hl, ht⟩ := tame_tup.mp h
  have hl' : l.length ≤ 1000000 := by omega
  refine run_pure l_are_counted rfl rfl ?_ und_bl
  have N5 : start' t_are_counted.N [enc k, .tup l] = [some (enc k), some (.tup l), none, none, none] := rfl
  rw [N5]
  simp only [t_are_counted, exs_cons, ex_if, ev_not, ev_blt, evs_cons, evs_nil, ev_comp, evi_val, ev_var, Res.bind_ok, List.getElem?_cons_succ, List.getElem?_cons_zero, walk_tup, List.map_cons, List.map_nil, wipe', List.set_cons_succ, List.set_cons_zero]
  rw [compL_map (φ := fun d => D.bl (eb k d))]
  · simp only [List.nil_append, Res.bind_ok, fresh_f]
    rw [all_bl]
    cases e : l.all (eb k) with
    | false =>
      rw [vb_bag_no e]
      simp
    | true =>
      obtain ⟨b, rfl, tb, zb⟩ := eb_all e
      obtain ⟨f, ef, lf, mf, af⟩ := zip_nxt (b := b)
      rw [vb_bag tb zb, ← af]
      have zv : ∀ M, zipV (.tup (b.map encE)) (.tup ((b.map encE).drop 1)) M = .ok (f.map (fun x => .wtp [encE x.1, encE x.2]), none) M := fun M => by rw [← ef]; rfl
      simp only [Res.bind_ok, tIte_bl, if_true, tIf_bl, Bool.false_eq_true, if_false, exs_nil, seqF_next, ex_ret, ev_blt, evs_cons, evs_nil, ev_comp, evi_zip, ev_var, ev_sli, evo_some, evo_none, ev_k, optR_some, optR_none, sli_1, zv, wipe', List.getElem?_cons_succ, List.getElem?_cons_zero, List.map_cons, List.map_nil, List.set_cons_succ, List.set_cons_zero]
      rw [compL_mapB (h := fun x : (Pv × Int) × (Pv × Int) => D.wtp [encE x.1, encE x.2]) (φ := fun x => D.bl (plt x.1.1 x.2.1)) (l := f)]
      · simp only [List.nil_append, Res.bind_ok, fresh_f, all_bl] <;> rfl
      · intro x hx
        have hp := mf x hx
        have cp := fun M => cmp_plt (M := M) (tb x.1 hp.1) (tb x.2 hp.2) hd
        have i1 : ∀ (p : Pv × Int) M, idxD (encE p) (.int 0) M = .ok (encP p.1) M := fun p M => by simp [encE]
        exact ⟨[some (enc k), some (.tup (b.map encE)), some (encE x.1), some (encE x.2), none], by simp [TL.len], by simp, by simp [i1, cp]⟩
      · simp only [List.length_map] at hl hl'
        simp only [List.length_nil, Nat.zero_add]
        show _ ≤ 1000000
        omega
  · intro d hd'
    have ic := fun M => is_counted_of hk ih (M := M) (n := n) (ht d hd') hm (by omega)
    refine ⟨[some (enc k), some (.tup l), none, none, some d], by simp, by simp, ?_⟩
    cases e : cb k d with
    | false =>
      rw [e] at ic
      simp [en_call, en_dfl, d_is_counted, arrange, pick, ic, eb, e]
    | true =>
      obtain ⟨p, hp, rfl⟩ := cb_iff.mp e
      rw [e] at ic
      have i1 : ∀ M, idxD (encE p) (.int 1) M = .ok (.int p.2) M := fun M => by simp [encE]
      simp [en_call, en_dfl, d_is_counted, arrange, pick, ic, eb, e, i1]
      simp [encE, nzD]
  · simpa using hl'
end
theorem run_is_valued_any (k : Kd) : ∀ (d : D) (n : Nat) (M : Mem), tame d = true → k.wf = true → k.dp ≤ 60 → 3 * k.dp ≤ n → run P n (.fn "is_valued") [enc k, d] M = .ok (.bl (vb k d)) M := by
  have notup : ∀ (k : Kd) (d : D) (n : Nat) (M : Mem), k ≠ .num → tame d = true → d.isTup = false → run P (n + 1) (.fn "is_valued") [enc k, d] M = .ok (.bl (vb k d)) M := by
    intro k d n M hk h hT
    have it := fun M call => isi_T (M := M) (call := call) h
    rw [hT] at it
    rw [vb_notup hk hT]
    refine run_pure l_is_valued rfl rfl ?_ und_bl
    cases k with
    | num => exact absurd rfl hk
    | fn a b => simp [t_is_valued, start', LIM, enc]
    | _ => simp [t_is_valued, start', LIM, enc, it]
  induction k with
  | num =>
    intro d n M h _ _ hn; obtain ⟨n, rfl⟩ : ∃ m, n = m + 1 := ⟨n - 1, by simp only [Kd.dp] at hn; omega⟩
    have h1 := fun M => run_is_whole_any (d := d) (n := n) (M := M) h (by simp only [Kd.dp] at hn; omega)
    rw [vb_num]
    refine run_pure l_is_valued rfl rfl ?_ und_bl
    simp [t_is_valued, start', LIM, enc, en_call, en_dfl, d_is_whole, arrange, pick, h1]
  | unit =>
    intro d n M h _ _ hn; obtain ⟨n, rfl⟩ : ∃ m, n = m + 1 := ⟨n - 1, by simp only [Kd.dp] at hn; omega⟩
    cases hT : d.isTup with
    | false => exact notup .unit d n M (by simp) h hT
    | true =>
      obtain ⟨l, rfl⟩ := isTup_iff.mp hT
      rw [vb_unit]
      refine run_pure l_is_valued rfl rfl ?_ und_bl
      simp [t_is_valued, start', LIM, enc, isi_tup]
  | fn a b _ _ =>
    intro d n M h _ _ hn; obtain ⟨n, rfl⟩ : ∃ m, n = m + 1 := ⟨n - 1, by simp only [Kd.dp] at hn; omega⟩
    rw [vb_fn]
    refine run_pure l_is_valued rfl rfl ?_ und_bl
    simp [t_is_valued, start', LIM, enc]
  | bag a ih =>
    intro d n M h hw hd hn; obtain ⟨n, rfl⟩ : ∃ m, n = m + 1 := ⟨n - 1, by simp only [Kd.dp] at hn; omega⟩
    simp only [Kd.dp] at hd hn
    have hp : a.pl = true := hw
    have ap := dp_pos a
    cases hT : d.isTup with
    | false => exact notup (.bag a) d n M (by simp) h hT
    | true =>
      obtain ⟨l, rfl⟩ := isTup_iff.mp hT
      have h1 := fun M => are_counted_of (m := 3 * a.dp) (n := n) (M := M) hp (fun d n M h hn => ih d n M h (dt_wf (pl_dt hp)) (by omega) hn) h (by omega) (by omega) (by omega)
      refine run_pure l_is_valued rfl rfl ?_ und_bl
      simp [t_is_valued, start', LIM, enc, isi_tup, en_call, en_dfl, d_are_counted, arrange, pick, h1]
  | pair a b iha ihb =>
    intro d n M h hw hd hn; obtain ⟨n, rfl⟩ : ∃ m, n = m + 1 := ⟨n - 1, by simp only [Kd.dp] at hn; omega⟩
    simp only [Kd.wf, Bool.and_eq_true] at hw
    simp only [Kd.dp] at hd hn
    cases hT : d.isTup with
    | false => exact notup (.pair a b) d n M (by simp) h hT
    | true =>
      obtain ⟨l, rfl⟩ := isTup_iff.mp hT
      have ht := (tame_tup.mp h).2
      rcases l with _ | ⟨x, _ | ⟨y, r⟩⟩
      · rw [vb_pair_no fun a b e => by simp at e]
        refine run_pure l_is_valued rfl rfl ?_ und_bl
        simp [t_is_valued, start', LIM, enc, isi_tup]
      · rw [vb_pair_no fun a b e => by simp at e]
        refine run_pure l_is_valued rfl rfl ?_ und_bl
        simp [t_is_valued, start', LIM, enc, isi_tup]
      · have tx := ht x (by simp)
        have is_ := fun M call => isi_S (M := M) (call := call) tx
        have n2 : ¬ ((r.length : Int) + 1 + 1 < 2) := by omega
        cases hS : isStr x with
        | false =>
          rw [hS] at is_
          rw [vb_pair_no fun a b e => by simp at e; rw [e.1] at hS; simp [isStr] at hS]
          refine run_pure l_is_valued rfl rfl ?_ und_bl
          simp [t_is_valued, start', LIM, enc, isi_tup, is_, n2]
        | true =>
          obtain ⟨s, rfl⟩ := isStr_iff.mp hS
          have so : PyData.strOk s = true := by simpa [tame] using tx
          by_cases e : s = "pair"
          · subst e
            rcases r with _ | ⟨z, _ | ⟨u, r⟩⟩
            · rw [vb_pair_no fun a b e => by simp at e]
              refine run_pure l_is_valued rfl rfl ?_ und_bl
              simp [t_is_valued, start', LIM, enc, isi_tup, isi_str, cmp_ne]
            · have h2 := fun M => iha y n M (ht _ (by simp)) hw.1 (by omega) (by omega)
              have h3 := fun M => ihb z n M (ht _ (by simp)) hw.2 (by omega) (by omega)
              rw [vb_pair]
              refine run_pure l_is_valued rfl rfl ?_ und_bl
              cases e : vb a y <;> rw [e] at h2 <;> simp [t_is_valued, start', LIM, enc, isi_tup, isi_str, cmp_ne, en_call, en_dfl, d_is_valued, arrange, pick, h2, h3]
            · rw [vb_pair_no fun a b e => by simp at e]
              have n3 : ¬ ((r.length : Int) + 1 + 1 + 1 + 1 < 2) := by omega
              have n4 : ¬ ((r.length : Int) + 1 + 1 + 1 + 1 = 3) := by omega
              refine run_pure l_is_valued rfl rfl ?_ und_bl
              simp [t_is_valued, start', LIM, enc, isi_tup, isi_str, cmp_ne, n3, n4]
          · rw [vb_pair_no fun a b q => by simp at q; exact e q.1]
            refine run_pure l_is_valued rfl rfl ?_ und_bl
            simp [t_is_valued, start', LIM, enc, isi_tup, isi_str, cmp_ne so, e, n2]
  | either a b iha ihb =>
    intro d n M h hw hd hn; obtain ⟨n, rfl⟩ : ∃ m, n = m + 1 := ⟨n - 1, by simp only [Kd.dp] at hn; omega⟩
    simp only [Kd.wf, Bool.and_eq_true] at hw
    simp only [Kd.dp] at hd hn
    cases hT : d.isTup with
    | false => exact notup (.either a b) d n M (by simp) h hT
    | true =>
      obtain ⟨l, rfl⟩ := isTup_iff.mp hT
      have ht := (tame_tup.mp h).2
      rcases l with _ | ⟨x, _ | ⟨y, r⟩⟩
      · rw [vb_either_no (fun a e => by simp at e) (fun a e => by simp at e)]
        refine run_pure l_is_valued rfl rfl ?_ und_bl
        simp [t_is_valued, start', LIM, enc, isi_tup]
      · rw [vb_either_no (fun a e => by simp at e) (fun a e => by simp at e)]
        refine run_pure l_is_valued rfl rfl ?_ und_bl
        simp [t_is_valued, start', LIM, enc, isi_tup]
      · have tx := ht x (by simp)
        have is_ := fun M call => isi_S (M := M) (call := call) tx
        have n2 : ¬ ((r.length : Int) + 1 + 1 < 2) := by omega
        cases hS : isStr x with
        | false =>
          rw [hS] at is_
          rw [vb_either_no (fun a e => by simp at e; rw [e.1] at hS; simp [isStr] at hS) (fun a e => by simp at e; rw [e.1] at hS; simp [isStr] at hS)]
          refine run_pure l_is_valued rfl rfl ?_ und_bl
          simp [t_is_valued, start', LIM, enc, isi_tup, is_, n2]
        | true =>
          obtain ⟨s, rfl⟩ := isStr_iff.mp hS
          rcases r with _ | ⟨z, r⟩
          · by_cases e : s = "left"
            · subst e
              have h2 := fun M => iha y n M (ht _ (by simp)) hw.1 (by omega) (by omega)
              rw [vb_left]
              refine run_pure l_is_valued rfl rfl ?_ und_bl
              simp [t_is_valued, start', LIM, enc, isi_tup, isi_str, en_call, en_dfl, d_is_valued, arrange, pick, h2, LR_eq, rec_LR, get_LR]
            · by_cases e' : s = "right"
              · subst e'
                have h2 := fun M => ihb y n M (ht _ (by simp)) hw.2 (by omega) (by omega)
                rw [vb_right]
                refine run_pure l_is_valued rfl rfl ?_ und_bl
                simp [t_is_valued, start', LIM, enc, isi_tup, isi_str, en_call, en_dfl, d_is_valued, arrange, pick, h2, LR_eq, rec_LR, get_LR]
              · rw [vb_either_no (fun a q => by simp at q; exact e q.1) (fun a q => by simp at q; exact e' q.1)]
                have e1 : ¬ ("left" : Str) = s := fun q => e q.symm
                have e2 : ¬ ("right" : Str) = s := fun q => e' q.symm
                refine run_pure l_is_valued rfl rfl ?_ und_bl
                simp [t_is_valued, start', LIM, enc, isi_tup, isi_str, LR_eq, rec_LR, get_LR, e1, e2]
          · rw [vb_either_no (fun a e => by simp at e) (fun a e => by simp at e)]
            have n3 : ¬ ((r.length : Int) + 1 + 1 + 1 = 2) := by omega
            have n4 : ¬ ((r.length : Int) + 1 + 1 + 1 < 2) := by omega
            refine run_pure l_is_valued rfl rfl ?_ und_bl
            by_cases e1 : ("left" : Str) = s
            · subst e1; simp [t_is_valued, start', LIM, enc, isi_tup, isi_str, LR_eq, rec_LR, get_LR, n3, n4]
            · by_cases e2 : ("right" : Str) = s
              · subst e2; simp [t_is_valued, start', LIM, enc, isi_tup, isi_str, LR_eq, rec_LR, get_LR, n3, n4]
              · simp [t_is_valued, start', LIM, enc, isi_tup, isi_str, LR_eq, rec_LR, get_LR, e1, e2, n3, n4]
/-- a pair of a side and something -/
def sideOf (s : Str) : D → Bool
  | .tup [.str x, _] => decide (x = s)
  | _ => false
theorem sideOf_iff {s : Str} {d : D} : sideOf s d = true ↔ ∃ y, d = .tup [.str s, y] := by
  constructor
  · intro h
    unfold sideOf at h
    split at h
    · rename_i x y
      simp at h; subst h; exact ⟨_, rfl⟩
    · cases h
  · rintro ⟨y, rfl⟩; simp [sideOf]
theorem vb_side {k l : Kd} {d : D} (h1 : sideOf "left" d = false) (h2 : sideOf "right" d = false) : vb (.either k l) d = false :=
  vb_either_no (fun a e => by rw [sideOf_iff.mpr ⟨a, e⟩] at h1; cases h1) (fun a e => by rw [sideOf_iff.mpr ⟨a, e⟩] at h2; cases h2)
end Cw

set_option Elab.async false
set_option linter.all false
set_option maxRecDepth 100000
set_option maxHeartbeats 1000000
-- from: k03
/-! RH: k03: spoilt things, data kinds, the law's look at values. -/
namespace Cw
open Ev
open PySem (Str PyData)
section
variable {j : Nat}
def penc (p : List D × Nat) : D := .tup [.tup p.1, .int (p.2 : Int)]
def POk (N : Nat) (ps : List (List D × Nat)) : Prop := ∀ p ∈ ps, tm N (.tup p.1) = true ∧ p.2 < p.1.length
theorem rev_obj {n : Nat} {M : Mem} {xs : List D} (h : M[n]? = some (.lst xs)) : revD (.obj n) M = .ok (.lst xs.reverse) M := by simp [revD, lrOf, h]
/-- between two turns of the first loop -/
def SInv (j N : Nat) (M0 : Mem) (thing : D) (i : Nat) (σ : St') (M : Mem) : Prop := ∃ here t w a ps, σ = [some (.obj j), some thing, some (.obj M0.length), some here, t, w, a] ∧ M.length = M0.length + 1 ∧ W4 M j ∧ M[M0.length]? = some (.lst (ps.map penc)) ∧ (∀ i, i ≠ j → i < M0.length → M[i]? = M0[i]?) ∧ ps.length ≤ i ∧ POk N ps ∧ tm N here = true
def UInv (j N L : Nat) (thing : D) (M0 : Mem) (i : Nat) (σ : St') (M : Mem) : Prop := M = M0 ∧ ∃ here t w a, σ = [some (.obj j), some thing, some (.obj L), some here, t, w, a] ∧ tm (N + 1) here = true
def sp1 : SL := .cons (.if_ (.or_ (.not_ (.blt .isi (.cons (.var 3) (.cons (.k (.ty "tuple")) .nil)))) (.cmp .Eq (.var 3) (.tup .nil)))
  (.cons .brk
  .nil)
  .nil)
  (.cons (.asg (.var 6) (.call "_law_draw" (.cons (.var 0) (.cons (.blt .len (.cons (.var 3) .nil)) .nil)) .nil [.inl 0, .inl 1]))
  (.cons (.ex (.met .append (.var 2) (.cons (.tup (.cons (.var 3) (.cons (.var 6) .nil))) .nil)))
  (.cons (.asg (.var 3) (.idx (.var 3) (.var 6)))
  .nil)))
def sp2 : SL := .cons (.asg (.var 3) (.bin .Add (.bin .Add (.sli (.var 5) .none (.some (.var 6))) (.tup (.cons (.var 3) .nil))) (.sli (.var 5) (.some (.bin .Add (.var 6) (.k (.int 1)))) .none)))
  .nil
theorem spoilt_body : t__law_spoilt.body = .cons (.par [2, 3] (.cons (.lst true .nil) (.cons (.var 1) .nil)))
  (.cons (.for_ (.var 4) (.rng1 (.call "_law_draw" (.cons (.var 0) (.cons (.k (.int 6)) .nil)) .nil [.inl 0, .inl 1])) sp1)
  (.cons (.asg (.var 3) (.call "_law_bent" (.cons (.var 0) (.cons (.var 3) .nil)) .nil [.inl 0, .inl 1]))
  (.cons (.for_ (.tup (.cons (.var 5) (.cons (.var 6) .nil))) (.val (.rev (.var 2))) sp2)
  (.cons (.ret (.var 3))
  .nil)))) := rfl
theorem step1 {N n : Nat} {M0 M : Mem} {thing : D} {i : Nat} {σ : St'} {x : D} (h9 : N ≤ 400000) (hj : j < M0.length) (hi : i < 6) (inv : SInv j N M0 thing i σ M) :
    ∃ k M2, exs (P.en (run P (n + 1))) sp1 (σ.set 4 (some x)) M = .ok k M2 ∧ ((∃ σ2, k = .next σ2 ∧ SInv j N M0 thing (i + 1) σ2 M2) ∨ ∃ σ2, k = .brk σ2 ∧ SInv j N M0 thing 6 σ2 M2) := by
  obtain ⟨here, t, w', a, ps, rfl, hl, wl, hL, fr, hps, pok, sub⟩ := inv
  have td := tm_tame (by omega) sub
  have it := fun M call => isi_T (M := M) (call := call) td
  have out : (here.isTup = false ∨ here = .tup []) → exs (P.en (run P (n + 1))) sp1 [some (.obj j), some thing, some (.obj M0.length), some here, some x, w', a] M = .ok (.brk [some (.obj j), some thing, some (.obj M0.length), some here, some x, w', a]) M := by
    rintro (h | rfl)
    · rw [h] at it; simp [sp1, it]
    · simp [sp1, isi_tup, LIM]
  by_cases hh : here.isTup = false ∨ here = .tup []
  · exact ⟨.brk _, M, out hh, .inr ⟨_, rfl, here, some x, w', a, ps, rfl, hl, wl, hL, fr, by omega, pok, sub⟩⟩
  · have hT : here.isTup = true := by
      cases e : here.isTup with
      | true => rfl
      | false => exact absurd (.inl e) hh
    obtain ⟨l, rfl⟩ := isTup_iff.mp hT
    have hl0 : l ≠ [] := fun q => hh (.inr (by rw [q]))
    obtain ⟨ll, ht⟩ := tm_tup.mp sub
    have ie : l.isEmpty = false := by simpa using hl0
    have hp : 0 < l.length := List.length_pos_iff.mpr hl0
    obtain ⟨r, M2, hr, r0, r1, s2⟩ := run_draw (n := n) (M := M) (m := l.length) wl (by omega) (by omega)
    obtain ⟨c, rfl⟩ : ∃ c : Nat, r = c := ⟨r.toNat, by omega⟩
    have hc : c < l.length := by omega
    have hL2 : M2[M0.length]? = some (.lst (ps.map penc)) := by rw [s2.3 _ (by omega)]; exact hL
    have und : (D.tup [.tup l, .int (c : Int)]).und M0.length = true := by
      have := tame_und (m := M0.length) td
      simp only [D.und, unds, Bool.and_true] at this ⊢
      exact this
    have ap : metD .append (.obj M0.length) [.tup [.tup l, .int (c : Int)]] M2 = .ok .non (M2.set M0.length (.lst (ps.map penc ++ [.tup [.tup l, .int (c : Int)]]))) := by
      have q : (ps.map penc).length < LIM := by simp only [List.length_map]; show _ < 1000000; omega
      simp only [metD, hL2, q, und, decide_true, Bool.and_self, if_true]
    have ra : recD .append M2 (.obj M0.length) = true := by simp only [recD, hL2]
    have ix : ∀ M, idxD (.tup l) (.int (c : Int)) M = .ok l[c] M := fun M => idx_nat (by simp [hc])
    have hlt : M0.length < M2.length := by rw [s2.1, hl]; omega
    refine ⟨.next [some (.obj j), some thing, some (.obj M0.length), some l[c], some x, w', some (.int c)], M2.set M0.length (.lst (ps.map penc ++ [.tup [.tup l, .int (c : Int)]])), ?_, .inl ⟨_, rfl, l[c], some x, w', some (.int c), ps ++ [(l, c)], rfl, by simp [s2.1, hl], ?_, ?_, fun i h1 h2 => ?_, by simp; omega, fun p hp => ?_, ht _ (List.getElem_mem hc)⟩⟩
    · simp [sp1, en_call, en_dfl, d__law_draw, arrange, pick, isi_tup, hl0, ie, hr, ra, ap, ix, LIM]
    · obtain ⟨a1, b1, c1, e1, h⟩ := s2.2
      exact ⟨a1, b1, c1, e1, by rw [List.getElem?_set_ne (by omega)]; exact h⟩
    · rw [at_set hlt, List.map_append]; rfl
    · rw [List.getElem?_set_ne (by omega), s2.3 _ h1]; exact fr i h1 h2
    · rcases List.mem_append.mp hp with hp | hp
      · exact pok p hp
      · rw [List.mem_singleton] at hp; subst hp; exact ⟨sub, hc⟩
theorem step2 {N n : Nat} {M0 M : Mem} {L : Nat} {thing : D} {i : Nat} {σ : St'} {p : List D × Nat} (h9 : N ≤ 400000) (wd : tm N (.tup p.1) = true) (hp : p.2 < p.1.length) (inv : UInv j N L thing M0 i σ M) :
    ∃ σ1 M1, asT (P.en (run P (n + 1))) (.tup (.cons (.var 5) (.cons (.var 6) .nil))) (penc p) σ M = .ok σ1 M1 ∧ ∃ k M2, exs (P.en (run P (n + 1))) sp2 σ1 M1 = .ok k M2 ∧ ((∃ σ2, k = .next σ2 ∧ UInv j N L thing M0 (i + 1) σ2 M2) ∨ ∃ σ2, k = .brk σ2 ∧ UInv j N L thing M0 6 σ2 M2) := by
  obtain ⟨rfl, here, t, w, a, rfl, tg⟩ := inv
  obtain ⟨l, c⟩ := p
  dsimp only at wd hp
  obtain ⟨ll, ht⟩ := tm_tup.mp wd
  have a1 : ∀ M, sliD (.tup l) none (some (c : Int)) M = .ok (.tup (l.take c)) M := fun M => sli_to
  have a2 : ∀ M, sliD (.tup l) (some ((c : Int) + 1)) none M = .ok (.tup (l.drop (c + 1))) M := fun M => sli_from (n := c + 1)
  have ad : ∀ M, binD .Add (.tup (l.take c)) (.tup [here]) M = .ok (.tup (l.take c ++ [here])) M := fun M => add_tt (by simp [LIM]; omega)
  have ad2 : ∀ M, binD .Add (.tup (l.take c ++ [here])) (.tup (l.drop (c + 1))) M = .ok (.tup ((l.take c ++ [here]) ++ l.drop (c + 1))) M := fun M => add_tt (by simp [LIM]; omega)
  refine ⟨[some (.obj j), some thing, some (.obj L), some here, t, some (.tup l), some (.int c)], M, by simp [penc, TL.len], .next [some (.obj j), some thing, some (.obj L), some (.tup ((l.take c ++ [here]) ++ l.drop (c + 1))), t, some (.tup l), some (.int c)], M, ?_, .inl ⟨_, rfl, rfl, _, _, _, _, rfl, ?_⟩⟩
  · simp only [sp2]
    simp [-List.append_assoc, a1, a2, ad, ad2, LIM]
  · refine tm_tup.mpr ⟨by simp; omega, fun x hx => ?_⟩
    rcases List.mem_append.mp hx with hx | hx
    · rcases List.mem_append.mp hx with hx | hx
      · exact tm_mono (by omega) (ht x (List.mem_of_mem_take hx))
      · rw [List.mem_singleton] at hx; rw [hx]; exact tg
    · exact tm_mono (by omega) (ht x (List.mem_of_mem_drop hx))
theorem run_spoilt {N n : Nat} {M : Mem} {d : D} (w : W4 M j) (hd : tm N d = true) (h4 : 4 ≤ N) (h9 : N ≤ 400000) (hn : 7 ≤ n) : ∃ r M', run P n (.fn "_law_spoilt") [.obj j, d] M = .ok r M' ∧ tm (N + 1) r = true ∧ S4 j M M' := by
  obtain ⟨n, rfl⟩ : ∃ m, n = m + 1 + 1 := ⟨n - 2, by omega⟩
  have hj := w.lt
  have w0 : W4 (M ++ [Cell.lst []]) j := by
    obtain ⟨a, b, c, e, h⟩ := w
    exact ⟨a, b, c, e, by rw [List.getElem?_append_left hj]; exact h⟩
  obtain ⟨q, M1, hq, q0, q1, s1⟩ := run_draw (n := n) (M := M ++ [Cell.lst []]) (m := 6) w0 (by decide) (by decide)
  have ne : M.length ≠ j := by omega
  obtain ⟨σ1, M2, e1, inv1⟩ := forL_inv (Inv := SInv j N M d) (Out := SInv j N M d 6) (all := rngL 0 q.toNat) (xs := rngL 0 q.toNat) (σ := [some (.obj j), some d, some (.obj M.length), some d, none, none, none]) (M := M1)
    (g := fun d σ M => asT (P.en (run P (n + 1))) (.var 4) d σ M) (f := fun σ M => exs (P.en (run P (n + 1))) sp1 σ M)
    (fun i x σ M' hx inv => by
      have hi := (rngL_get hx).2
      obtain ⟨k, M3, e3, q3⟩ := step1 (n := n) (x := x) h9 hj (by omega) inv
      exact ⟨_, M', asT_var, k, M3, e3, q3⟩)
    (fun σ M' inv => by
      obtain ⟨here, t, w, a, ps, e, h1, h2, h3, h4, h5, h6⟩ := inv
      rw [rngL_len] at h5
      exact ⟨here, t, w, a, ps, e, h1, h2, h3, h4, by omega, h6⟩)
    ⟨d, none, none, none, [], rfl, by rw [s1.1]; simp, s1.2, by rw [s1.3 _ ne]; simp, fun i hi hlt => by rw [s1.3 i hi, List.getElem?_append_left hlt], by simp, fun _ h => (nomatch h), hd⟩
  obtain ⟨here, t, w', a, ps, rfl, hl2, wl2, hL2, fr2, hps, pok, sub⟩ := inv1
  obtain ⟨b, M3, e3, tb, s3⟩ := run_bent4 (n := n + 1) wl2 sub h4 h9 (by omega)
  have hL3 : M3[M.length]? = some (.lst (ps.map penc)) := by rw [s3.3 _ (by omega)]; exact hL2
  have rv := rev_obj hL3
  obtain ⟨σ2, M4, e4, inv2⟩ := forL_inv (Inv := UInv j N M.length d M3) (Out := UInv j N M.length d M3 6) (all := (ps.map penc).reverse) (xs := (ps.map penc).reverse) (σ := [some (.obj j), some d, some (.obj M.length), some b, t, w', a]) (M := M3)
    (g := fun d σ M => asT (P.en (run P (n + 1))) (.tup (.cons (.var 5) (.cons (.var 6) .nil))) d σ M) (f := fun σ M => exs (P.en (run P (n + 1))) sp2 σ M)
    (fun i x σ M' hx inv => by
      have hx := List.mem_of_getElem? hx
      rw [List.mem_reverse, List.mem_map] at hx
      obtain ⟨p, hp, rfl⟩ := hx
      exact step2 h9 (pok p hp).1 (pok p hp).2 inv)
    (fun σ M' inv => inv)
    ⟨rfl, b, t, w', a, rfl, tb⟩
  obtain ⟨rfl, here', t', w'', a', rfl, tg⟩ := inv2
  have st : S4 j M (M4.take M.length) := by
    have l3 : M4.length = M.length + 1 := by rw [s3.1, hl2]
    refine ⟨by simp [l3], ?_, fun i hi => ?_⟩
    · obtain ⟨a1, b1, c1, e1', h⟩ := s3.2
      exact ⟨a1, b1, c1, e1', by rw [List.getElem?_take_of_lt hj]; exact h⟩
    · by_cases hlt : i < M.length
      · rw [List.getElem?_take_of_lt hlt, s3.3 i hi]; exact fr2 i hi hlt
      · rw [List.getElem?_eq_none (by simp; omega), List.getElem?_eq_none (by omega)]
  refine ⟨here', M4.take M.length, ?_, tg, st⟩
  rw [run_step l__law_spoilt rfl]
  have lv : leave .drop M.length here' M4 = .ok here' (M4.take M.length) := by simp [leave, tame_und (tm_tame (by omega) tg)]
  rw [← lv, spoilt_body]
  have N7 : t__law_spoilt.N.length = 7 := rfl
  simp only [asT_var] at e1
  have md : t__law_spoilt.mode = .drop := rfl
  simp [N7, md, start', setAll, LIM, en_call, en_dfl, d__law_draw, d__law_bent, arrange, pick, hq, rng1_ok (n := q) (by omega) (by omega), e1, e3, rv, e4]
theorem run_dataK : ∀ (n : Nat) (M : Mem) (x : Int), W4 M j → 1 ≤ x → x + 3 ≤ n → ∃ k M', run P n (.fn "_law_data") [.obj j, .int x] M = .ok (enc k) M' ∧ k.dt = true ∧ (k.dp : Int) ≤ x ∧ S4 j M M'
  | n, M, x, w, h1, hn => by
    obtain ⟨n, rfl⟩ : ∃ m, n = m + 1 + 1 := ⟨n - 2, by omega⟩
    rw [run_step l__law_data rfl]
    obtain ⟨r, M1, hr, r0, s1⟩ : ∃ r M1, ev (P.en (run P (n + 1))) (.ite (.cmp .Gt (.var 1) (.k (.int 1))) (.call "_law_draw" (.cons (.var 0) (.cons (.k (.int 8)) .nil)) .nil [.inl 0, .inl 1]) (.call "_law_draw" (.cons (.var 0) (.cons (.k (.int 4)) .nil)) .nil [.inl 0, .inl 1])) [some (.obj j), some (.int x), none, none] M = .ok (.int r) M1 ∧ (x ≤ 1 → r < 4) ∧ S4 j M M1 := by
      by_cases hx : 1 < x
      · obtain ⟨r, M1, hr, r0, r1, s1⟩ := run_draw (n := n) (M := M) (m := 8) w (by decide) (by decide)
        exact ⟨r, M1, by simp [hx, en_call, en_dfl, d__law_draw, arrange, pick, hr], by omega, s1⟩
      · obtain ⟨r, M1, hr, r0, r1, s1⟩ := run_draw (n := n) (M := M) (m := 4) w (by decide) (by decide)
        exact ⟨r, M1, by simp [hx, en_call, en_dfl, d__law_draw, arrange, pick, hr], by omega, s1⟩
    have N4 : start' t__law_data.N [.obj j, .int x] = [some (.obj j), some (.int x), none, none] := rfl
    rw [N4]
    by_cases h4 : r < 4
    · by_cases h3 : r = 3
      · refine ⟨.unit, M1, ?_, rfl, by simp [Kd.dp]; omega, s1⟩
        rw [← leave_enc (k := .unit) (M := M1) s1.1.symm]
        simp only [t__law_data, exs_cons, ex_asg, hr, Res.bind_ok, asT_var, seqF_next]
        simp [h4, h3, LIM, enc]
      · refine ⟨.num, M1, ?_, rfl, by simp [Kd.dp]; omega, s1⟩
        rw [← leave_enc (k := .num) (M := M1) s1.1.symm]
        simp only [t__law_data, exs_cons, ex_asg, hr, Res.bind_ok, asT_var, seqF_next]
        simp [h4, h3, LIM, enc]
    · by_cases h6 : r < 6
      · obtain ⟨k1, M2, e1, q1, p1, s2⟩ := run_plainK (n + 1) M1 (x - 1) s1.2 (by omega) (by omega)
        have s := s1.trans s2
        refine ⟨.bag k1, M2, ?_, q1, by simp [Kd.dp]; omega, s⟩
        rw [← leave_enc (k := .bag k1) (M := M2) s.1.symm]
        simp only [t__law_data, exs_cons, ex_asg, hr, Res.bind_ok, asT_var, seqF_next]
        simp [h4, h6, LIM, enc, en_call, en_dfl, d__law_plain, arrange, pick, e1]
      · obtain ⟨k1, M2, e1, q1, p1, s2⟩ := run_dataK (n + 1) M1 (x - 1) s1.2 (by omega) (by omega)
        obtain ⟨k2, M3, e2, q2, p2, s3⟩ := run_dataK (n + 1) M2 (x - 1) s2.2 (by omega) (by omega)
        have s := (s1.trans s2).trans s3
        by_cases h7 : r = 6
        · refine ⟨.pair k1 k2, M3, ?_, by simp [Kd.dt, q1, q2], by simp [Kd.dp]; omega, s⟩
          rw [← leave_enc (k := .pair k1 k2) (M := M3) s.1.symm]
          simp only [t__law_data, exs_cons, ex_asg, hr, Res.bind_ok, asT_var, seqF_next]
          simp [h4, h6, h7, LIM, enc, en_call, en_dfl, d__law_data, arrange, pick, e1, e2]
        · refine ⟨.either k1 k2, M3, ?_, by simp [Kd.dt, q1, q2], by simp [Kd.dp]; omega, s⟩
          rw [← leave_enc (k := .either k1 k2) (M := M3) s.1.symm]
          simp only [t__law_data, exs_cons, ex_asg, hr, Res.bind_ok, asT_var, seqF_next]
          simp [h4, h6, h7, LIM, enc, en_call, en_dfl, d__law_data, arrange, pick, e1, e2]
termination_by n => n
end
/-! the law's look -/
def hdK (m : Nat) : D → Bool
  | .tup (.str s :: r) => decide (r.length + 1 = m)
  | _ => false
theorem hdK_iff {m : Nat} {d : D} : hdK m d = true ↔ ∃ s r, d = .tup (.str s :: r) ∧ r.length + 1 = m := by
  constructor
  · intro h
    unfold hdK at h
    split at h
    · simp at h; exact ⟨_, _, rfl, h⟩
    · cases h
  · rintro ⟨s, r, rfl, h⟩; simp [hdK, h]
theorem run_headed4 {m n : Nat} {d : D} {M : Mem} (h : tame d = true) (hm : 1 ≤ m) (hn : 1 ≤ n) : run P n (.fn "_law_is_headed") [d, .int (m : Int)] M = .ok (.bl (hdK m d)) M := by
  obtain ⟨n, rfl, hn⟩ := succ_of (m := 0) hn
  have it := fun M call => isi_T (M := M) (call := call) h
  refine run_pure l__law_is_headed rfl rfl ?_ und_bl
  have no : ∀ b, hdK m d = b → b = false ∨ b = true := fun b _ => by cases b <;> simp
  cases hT : d.isTup with
  | false =>
    rw [hT] at it
    have : hdK m d = false := by
      cases e : hdK m d with
      | false => rfl
      | true => obtain ⟨s, r, rfl, _⟩ := hdK_iff.mp e; simp [D.isTup] at hT
    rw [this]; simp [t__law_is_headed, start', it]
  | true =>
    obtain ⟨l, rfl⟩ := isTup_iff.mp hT
    have ht := (tame_tup.mp h).2
    rcases l with _ | ⟨x, r⟩
    · have : ¬ (0 : Int) = (m : Int) := by omega
      simp [t__law_is_headed, start', isi_tup, hdK, this]
    · have is_ := fun M call => isi_S (M := M) (call := call) (ht x (by simp))
      by_cases hl : r.length + 1 = m
      · have hl' : ((r.length : Int) + 1 = (m : Int)) := by omega
        cases hS : isStr x with
        | true =>
          obtain ⟨s, rfl⟩ := isStr_iff.mp hS
          simp [t__law_is_headed, start', isi_tup, isi_str, hdK, hl, hl']
        | false =>
          rw [hS] at is_
          have : hdK m (.tup (x :: r)) = false := by
            cases e : hdK m (.tup (x :: r)) with
            | false => rfl
            | true => obtain ⟨s, r', q, _⟩ := hdK_iff.mp e; simp at q; rw [q.1] at hS; simp [isStr] at hS
          rw [this]; simp [t__law_is_headed, start', isi_tup, is_, hl']
      · have hl' : ¬ ((r.length : Int) + 1 = (m : Int)) := by omega
        have : hdK m (.tup (x :: r)) = false := by
          cases e : hdK m (.tup (x :: r)) with
          | false => rfl
          | true => obtain ⟨s, r', q, q2⟩ := hdK_iff.mp e; simp at q; rw [q.2] at hl; exact absurd q2 hl
        rw [this]; simp [t__law_is_headed, start', isi_tup, hl']
end Cw

set_option Elab.async false
set_option linter.all false
set_option maxRecDepth 100000
set_option maxHeartbeats 1000000
-- from: k03
/-! RI: k03: the law's look at values; bag_of, count_of, support_of. -/
namespace Cw
open Ev
open PySem (Str PyData)
theorem cmp_nilL {α : Type} {l : List α} {f : α → Int} {M : Mem} : cmpD .Eq (.lst (l.map fun x => D.int (f x))) (.lst []) M = .ok (.bl l.isEmpty) M := by
  have h1 : ∀ n, shs n (l.map fun x => D.int (f x)) = true := fun n => shs_of fun d hd => by
    obtain ⟨x, _, rfl⟩ := List.mem_map.mp hd
    cases n <;> simp [D.sh]
  have h2 : D.sh 60 (.lst (l.map fun x => D.int (f x))) = true := by simp only [D.sh]; exact h1 _
  have h3 : D.pl (.lst []) = true := by simp [D.pl, pls]
  rw [cmp_eq_of (by simp only [eqOk, h2, h3, Bool.and_self, Bool.true_or]) rfl rfl]
  cases l <;> simp [eqD, eqDs]
def lx_1 : SL := (.cons (.if_ (.or_ (.not_ (.call "_law_is_whole" (.cons (.idx (.var 2) (.k (.int 1))) .nil) .nil [.inl 0])) (.cmp .Eq (.idx (.var 2) (.k (.int 1))) (.k (.int 0))))
  (.cons (.ret (.k (.bl false)))
  .nil)
  .nil)
  .nil)
def lx_0 : SL := (.cons (.if_ (.or_ (.not_ (.blt .isi (.cons (.var 2) (.cons (.k (.ty "tuple")) .nil)))) (.or_ (.cmp .NotEq (.blt .len (.cons (.var 2) .nil)) (.k (.int 2))) (.not_ (.call "_law_is_value" (.cons (.var 0) (.cons (.idx (.var 2) (.k (.int 0))) .nil)) .nil [.inl 0, .inl 1]))))
  (.cons (.ret (.k (.bl false)))
  .nil)
  .nil) lx_1)
theorem lx_body : t__law_is_bag.body = (.cons (.if_ (.not_ (.blt .isi (.cons (.var 1) (.cons (.k (.ty "tuple")) .nil))))
  (.cons (.ret (.k (.bl false)))
  .nil)
  .nil)
  (.cons (.for_ (.var 2) (.val (.var 1)) lx_0)
  (.cons (.ret (.cmp .Eq (.comp false [("_law_at", 3)] (.var 3) (.rng2 (.k (.int 1)) (.blt .len (.cons (.var 1) .nil))) (.some (.cmp .GtE (.call "_law_order" (.cons (.var 0) (.cons (.idx (.idx (.var 1) (.bin .Sub (.var 3) (.k (.int 1)))) (.k (.int 0))) (.cons (.idx (.idx (.var 1) (.var 3)) (.k (.int 0))) .nil))) .nil [.inl 0, .inl 1, .inl 2]) (.k (.int 0)))) (.var 3)) (.lst false .nil)))
  .nil))) := rfl
theorem lbagged {k : Kd} {m : Nat} (hk : k.pl = true) (ih : ∀ (d : D) (n : Nat) (M : Mem), tame d = true → m ≤ n → run P n (.fn "_law_is_value") [enc k, d] M = .ok (.bl (vb k d)) M) {d : D} {n : Nat} {M : Mem} (h : tame d = true) (hm : k.dp + 1 ≤ m) (hn : m + 1 ≤ n) : run P n (.fn "_law_is_bag") [enc k, d] M = .ok (.bl (vb (.bag k) d)) M := by
  obtain ⟨n, rfl, hn⟩ := succ_of hn
  refine run_pure l__law_is_bag rfl rfl ?_ und_bl
  have N4 : start' t__law_is_bag.N [enc k, d] = [some (enc k), some d, none, none] := rfl
  rw [lx_body, N4]
  cases hT : d.isTup with
  | false =>
    have it := fun M call => isi_T (M := M) (call := call) h
    rw [hT] at it
    rw [vb_notup (by simp) hT]
    simp [it]
  | true =>
  obtain ⟨l, rfl⟩ := isTup_iff.mp hT
  obtain ⟨hl, ht⟩ := tame_tup.mp h
  have step := forL_find (g := fun d σ M => asT (P.en (run P n)) (.var 2) d σ M) (f := fun σ M => exs (P.en (run P n)) lx_0 σ M) (all := l) (xs := l) (M := M) (d := .bl false) (p := eb k) (σ := [some (enc k), some (.tup l), none, none])
    (Inv := fun σ => ∃ o, σ = [some (enc k), some (.tup l), o, none]) (fun x hx σ hs => by
      obtain ⟨o, rfl⟩ := hs
      have tx := ht x hx
      have it := fun M call => isi_T (M := M) (call := call) tx
      refine ⟨[some (enc k), some (.tup l), some x, none], by simp, ?_⟩
      cases hT : x.isTup with
      | false =>
        rw [hT] at it
        have : cb k x = false := cb_no fun a b e => by rw [e] at hT; simp [D.isTup] at hT
        simp [eb, this, lx_0, it]
      | true =>
        obtain ⟨y, rfl⟩ := isTup_iff.mp hT
        have hy := (tame_tup.mp tx).2
        rcases y with _ | ⟨a, _ | ⟨b, _ | ⟨c, r⟩⟩⟩
        · have : cb k (.tup []) = false := cb_no fun a b e => by simp at e
          simp [eb, this, lx_0, isi_tup]
        · have : cb k (.tup [a]) = false := cb_no fun a b e => by simp at e
          simp [eb, this, lx_0, isi_tup]
        · have h1 := fun M => ih a n M (hy _ (by simp)) (by omega)
          have h2 := fun M => run_lwhole4 (d := b) (n := n) (M := M) (hy _ (by simp)) (by omega)
          rw [show eb k (.tup [a, b]) = (vb k a && isInt b && nzD (.tup [a, b])) by rw [eb, cb_two hk]]
          cases e1 : vb k a with
          | false => rw [e1] at h1; simp [lx_0, isi_tup, en_call, en_dfl, d__law_is_value, arrange, pick, h1]
          | true =>
            rw [e1] at h1
            cases e2 : isInt b with
            | false => rw [e2] at h2; simp [lx_0, lx_1, isi_tup, en_call, en_dfl, d__law_is_value, d__law_is_whole, arrange, pick, h1, h2]
            | true =>
              rw [e2] at h2
              obtain ⟨i, rfl⟩ := isInt_iff.mp e2
              by_cases z : i = 0
              · subst z; simp [lx_0, lx_1, isi_tup, en_call, en_dfl, d__law_is_value, d__law_is_whole, arrange, pick, h1, h2, nzD]
              · simp [lx_0, lx_1, isi_tup, en_call, en_dfl, d__law_is_value, d__law_is_whole, arrange, pick, h1, h2, nzD, z]
        · have : cb k (.tup (a :: b :: c :: r)) = false := cb_no fun a b e => by simp at e
          have n3 : ¬ ((r.length : Int) + 1 + 1 + 1 = 2) := by omega
          simp [eb, this, lx_0, isi_tup, n3]) ⟨_, rfl⟩
  cases e : l.all (eb k) with
  | false =>
    have s2 := step.2 e
    rw [vb_bag_no e]
    simp only [asT_var] at s2
    simp [isi_tup, s2]
  | true =>
    obtain ⟨σ', s1, o, rfl⟩ := step.1 e
    obtain ⟨b, rfl, tb, zb⟩ := eb_all e
    rw [vb_bag tb zb, ← asc_range]
    simp only [asT_var] at s1
    have hb : b.length ≤ 500000 := by simpa using hl
    have rg : ∀ M, rng2V (.int 1) (.int ((b.map encE).length : Int)) M = .ok ((List.range (b.length - 1)).map fun (i : Nat) => D.int (1 + (i : Int)), none) M := fun M => by
      have h1 : (-1000000 : Int) ≤ ((b.map encE).length : Int) ∧ ((b.map encE).length : Int) ≤ 1000000 := by simp; omega
      have h0 : (-1000000 : Int) ≤ 1 ∧ (1 : Int) ≤ 1000000 := by decide
      simp only [rng2V, h0, h1, and_self, if_true, rngL]
      congr 4
      simp
    simp only [exs_cons, ex_if, ev_not, ev_blt, evs_cons, evs_nil, ev_var, ev_k, List.getElem?_cons_succ, List.getElem?_cons_zero, Res.bind_ok, isi_tup, tIte_bl, if_true, tIf_bl, Bool.false_eq_true, if_false, exs_nil, seqF_next, ex_for, evi_val, walk_tup, asT_var, s1, ex_ret, ev_cmp, ev_comp, evi_rng2, len_tup, rg, List.map_cons, List.map_nil, wipe', List.set_cons_succ, List.set_cons_zero]
    rw [compL_fm (h := fun (i : Nat) => D.int (1 + (i : Int))) (φ := fun (i : Nat) => D.int (1 + (i : Int))) (ψ := fun (i : Nat) => !(match b[i]?, b[i + 1]? with
      | some p, some q => plt p.1 q.1
      | _, _ => true)) (l := List.range (b.length - 1))]
    · simp only [List.nil_append, Res.bind_ok, fresh_f, ev_lst, evs_nil, List.length_nil, Nat.zero_le, if_true, cmp_nilL, seqF_ret]
      congr 4
      rw [Bool.eq_iff_iff, List.isEmpty_iff, List.filter_eq_nil_iff, List.all_eq_true]
      first
        | (simp; done)
        | (simp; exact ⟨fun h a ha => h a ha, fun h a ha => h a ha⟩)
    · intro i hi
      have hi : i < b.length - 1 := by simpa using hi
      have e1 : b[i]? = some b[i] := List.getElem?_eq_getElem (by omega)
      have e2 : b[i + 1]? = some b[i + 1] := List.getElem?_eq_getElem (by omega)
      have j1 : ∀ M, idxD (.tup (b.map encE)) (.int (1 + (i : Int) - 1)) M = .ok (encE b[i]) M := fun M => by
        have := idx_nat (l := b.map encE) (n := i) (d := encE b[i]) (M := M) (by simp [e1])
        rw [show (1 + (i : Int) - 1) = (i : Int) by omega]; exact this
      have j2 : ∀ M, idxD (.tup (b.map encE)) (.int (1 + (i : Int))) M = .ok (encE b[i + 1]) M := fun M => by
        have := idx_nat (l := b.map encE) (n := i + 1) (d := encE b[i + 1]) (M := M) (by simp [e2])
        rw [show (1 + (i : Int)) = ((i + 1 : Nat) : Int) by omega]; exact this
      have lo := fun M => run_lorder hk (n := n) (M := M) (tb b[i] (List.getElem_mem _)) (tb b[i + 1] (List.getElem_mem _)) (by omega)
      have i1 : ∀ (p : Pv × Int) M, idxD (encE p) (.int 0) M = .ok (encP p.1) M := fun p M => by simp [encE]
      have sg : decide (0 ≤ sgn b[i].1 b[i + 1].1) = !plt b[i].1 b[i + 1].1 := by
        cases h : plt b[i].1 b[i + 1].1 with
        | true => rw [sgn_lt.mpr h]; decide
        | false =>
          unfold sgn
          by_cases q : b[i].1 = b[i + 1].1
          · simp [q]
          · rw [if_neg q, h]; decide
      refine ⟨[some (enc k), some (.tup (b.map encE)), o, some (.int (1 + (i : Int)))], by simp, ?_, by simp⟩
      simp [j1, j2, i1, en_call, en_dfl, d__law_order, arrange, pick, lo, e1, e2, sg]
    · simp only [List.length_nil, List.length_range, Nat.zero_add]
      show _ ≤ 1000000
      omega
theorem run_lvalue3 (k : Kd) : ∀ (d : D) (n : Nat) (M : Mem), tame d = true → k.dt = true → k.dp ≤ 60 → 3 * k.dp ≤ n → run P n (.fn "_law_is_value") [enc k, d] M = .ok (.bl (vb k d)) M := by
  induction k with
  | unit =>
    intro d n M h _ _ hn; obtain ⟨n, rfl⟩ : ∃ m, n = m + 1 := ⟨n - 1, by simp only [Kd.dp] at hn; omega⟩
    refine run_pure l__law_is_value rfl rfl ?_ und_bl
    cases hT : d.isTup with
    | false =>
      have it := fun M call => isi_T (M := M) (call := call) h
      rw [hT] at it
      rw [vb_notup (by simp) hT]; simp [t__law_is_value, start', enc, it]
    | true =>
      obtain ⟨l, rfl⟩ := isTup_iff.mp hT
      rw [vb_unit]
      simp [t__law_is_value, start', enc, isi_tup]
      cases l <;> simp
  | num =>
    intro d n M h _ _ hn; obtain ⟨n, rfl⟩ : ∃ m, n = m + 1 := ⟨n - 1, by simp only [Kd.dp] at hn; omega⟩
    have h1 := fun M => run_lwhole4 (d := d) (n := n) (M := M) h (by simp only [Kd.dp] at hn; omega)
    rw [vb_num]
    refine run_pure l__law_is_value rfl rfl ?_ und_bl
    simp [t__law_is_value, start', enc, en_call, en_dfl, d__law_is_whole, arrange, pick, h1]
  | fn a b _ _ => intro d n M h g; simp [Kd.dt] at g
  | bag a ih =>
    intro d n M h hp hd hn; obtain ⟨n, rfl⟩ : ∃ m, n = m + 1 := ⟨n - 1, by simp only [Kd.dp] at hn; omega⟩
    simp only [Kd.dp] at hd hn
    have hp : a.pl = true := hp
    have ap := dp_pos a
    have h1 := fun M => lbagged (m := 3 * a.dp) (n := n) (M := M) hp (fun d n M h hn => ih d n M h (pl_dt hp) (by omega) hn) h (by omega) (by omega)
    refine run_pure l__law_is_value rfl rfl ?_ und_bl
    simp [t__law_is_value, start', enc, en_call, en_dfl, d__law_is_bag, arrange, pick, h1]
  | pair a b iha ihb =>
    intro d n M h hw hd hn; obtain ⟨n, rfl⟩ : ∃ m, n = m + 1 := ⟨n - 1, by simp only [Kd.dp] at hn; omega⟩
    simp only [Kd.dt, Bool.and_eq_true] at hw
    simp only [Kd.dp] at hd hn
    have hh := fun M => run_headed4 (m := 3) (n := n) (M := M) h (by decide) (by omega)
    refine run_pure l__law_is_value rfl rfl ?_ und_bl
    cases e : hdK 3 d with
    | false =>
      rw [e] at hh
      rw [vb_pair_no fun x y q => by rw [q] at e; simp [hdK] at e]
      simp at hh
      simp [t__law_is_value, start', enc, en_call, en_dfl, d__law_is_headed, arrange, pick, hh]
    | true =>
      rw [e] at hh
      obtain ⟨s, r, rfl, hr⟩ := hdK_iff.mp e
      have ht := (tame_tup.mp h).2
      match r, hr with
      | [y, z], _ =>
        have so : PyData.strOk s = true := by simpa [tame] using ht (.str s) (by simp)
        simp at hh
        by_cases e : s = "pair"
        · subst e
          have h2 := fun M => iha y n M (ht _ (by simp)) hw.1 (by omega) (by omega)
          have h3 := fun M => ihb z n M (ht _ (by simp)) hw.2 (by omega) (by omega)
          rw [vb_pair]
          cases e : vb a y <;> rw [e] at h2 <;> simp [t__law_is_value, start', enc, cmp_ne, en_call, en_dfl, d__law_is_headed, d__law_is_value, arrange, pick, hh, h2, h3]
        · rw [vb_pair_no fun a b q => by simp at q; exact e q.1]
          simp [t__law_is_value, start', enc, cmp_ne so, e, en_call, en_dfl, d__law_is_headed, arrange, pick, hh]
  | either a b iha ihb =>
    intro d n M h hw hd hn; obtain ⟨n, rfl⟩ : ∃ m, n = m + 1 := ⟨n - 1, by simp only [Kd.dp] at hn; omega⟩
    simp only [Kd.dt, Bool.and_eq_true] at hw
    simp only [Kd.dp] at hd hn
    have hh := fun M => run_headed4 (m := 2) (n := n) (M := M) h (by decide) (by omega)
    refine run_pure l__law_is_value rfl rfl ?_ und_bl
    cases e : hdK 2 d with
    | false =>
      rw [e] at hh
      rw [vb_either_no (fun x q => by rw [q] at e; simp [hdK] at e) (fun x q => by rw [q] at e; simp [hdK] at e)]
      simp at hh
      simp [t__law_is_value, start', enc, en_call, en_dfl, d__law_is_headed, arrange, pick, hh]
    | true =>
      rw [e] at hh
      obtain ⟨s, r, rfl, hr⟩ := hdK_iff.mp e
      have ht := (tame_tup.mp h).2
      match r, hr with
      | [y], _ =>
        simp at hh
        by_cases e : s = "left"
        · subst e
          have h2 := fun M => iha y n M (ht _ (by simp)) hw.1 (by omega) (by omega)
          rw [vb_left]
          simp [t__law_is_value, start', enc, LIM, isIn, en_call, en_dfl, d__law_is_headed, d__law_is_value, arrange, pick, hh, h2]
        · by_cases e' : s = "right"
          · subst e'
            have h2 := fun M => ihb y n M (ht _ (by simp)) hw.2 (by omega) (by omega)
            rw [vb_right]
            simp [t__law_is_value, start', enc, LIM, isIn, en_call, en_dfl, d__law_is_headed, d__law_is_value, arrange, pick, hh, h2]
          · rw [vb_either_no (fun a q => by simp at q; exact e q.1) (fun a q => by simp at q; exact e' q.1)]
            have e1 : ¬ ("left" : Str) = s := fun q => e q.symm
            have e2 : ¬ ("right" : Str) = s := fun q => e' q.symm
            simp [t__law_is_value, start', enc, LIM, isIn, e1, e2, en_call, en_dfl, d__law_is_headed, arrange, pick, hh]
/-! bags told -/
section
variable {k : Kd} {n : Nat} {M : Mem}
theorem run_check_bag (g : k.pl = true) (hd : k.dp ≤ 9) (hn : k.dp + 8 ≤ n) : run P n (.fn "check_kind_that") [enc (.bag k), .fn "is_bag"] M = .ok .non M :=
  run_check_that (k := .bag k) g (by simp only [Kd.dp]; omega) (by simp only [Kd.dp]; omega) fun n M h => by
    obtain ⟨n, rfl⟩ : ∃ m, n = m + 1 := ⟨n - 1, by simp only [Kd.dp] at h; omega⟩
    refine run_pure l_is_bag rfl rfl ?_ und_bl
    simp [t_is_bag, start', enc]
def cp1 : SL := (.cons (.if_ (.not_ (.call "is_counted" (.cons (.var 0) (.cons (.var 3) .nil)) .nil [.inl 0, .inl 1]))
  (.cons .never
  .nil)
  .nil)
  .nil)
theorem cp_body : t_check_pairs.body = (.cons (.if_ (.not_ (.blt .isi (.cons (.var 1) (.cons (.k (.ty "tuple")) .nil))))
  (.cons .never
  .nil)
  .nil)
  (.cons (.for_ (.tup (.cons (.var 2) (.cons (.var 3) .nil))) (.enum (.var 1)) cp1)
  .nil)) := rfl
theorem enumL_mem : ∀ {l : List D} {i : Nat} {x : D}, x ∈ enumL i l → ∃ (j : Nat) (d : D), x = .wtp [.int (j : Int), d] ∧ d ∈ l
  | [], _, _, h => by simp [enumL] at h
  | a :: r, i, x, h => by
    simp only [enumL, List.mem_cons] at h
    rcases h with rfl | h
    · exact ⟨i, a, rfl, List.mem_cons_self⟩
    · obtain ⟨j, d, e, hd⟩ := enumL_mem h
      exact ⟨j, d, e, List.mem_cons_of_mem _ hd⟩
theorem run_check_pairs {l : Bg} (t : typed k l) (hd : k.dp ≤ 9) (hn : k.dp + 5 ≤ n) : run P n (.fn "check_pairs") [enc k, .tup (l.map encE)] M = .ok .non M := by
  obtain ⟨n, rfl, hn⟩ := succ_of hn
  rw [run_step l_check_pairs rfl, cp_body]
  have N4 : start' t_check_pairs.N [enc k, .tup (l.map encE)] = [some (enc k), some (.tup (l.map encE)), none, none] := rfl
  have md : t_check_pairs.mode = .drop := rfl
  rw [N4, md]
  obtain ⟨σ', e, o2, o3, rfl⟩ := (forL_find (g := fun d σ M => asT (P.en (run P n)) (.tup (.cons (.var 2) (.cons (.var 3) .nil))) d σ M) (f := fun σ M => exs (P.en (run P n)) cp1 σ M) (all := enumL 0 (l.map encE)) (xs := enumL 0 (l.map encE)) (M := M) (d := .non) (p := fun _ => true) (σ := [some (enc k), some (.tup (l.map encE)), none, none])
    (Inv := fun σ => ∃ o2 o3, σ = [some (enc k), some (.tup (l.map encE)), o2, o3]) (fun x hx σ hs => by
      obtain ⟨o2, o3, rfl⟩ := hs
      obtain ⟨i, d, rfl, hd'⟩ := enumL_mem hx
      obtain ⟨p, hp, rfl⟩ := List.mem_map.mp hd'
      have ic := fun M => run_is_counted (M := M) (n := n) (t p hp) (by omega)
      refine ⟨[some (enc k), some (.tup (l.map encE)), some (.int (i : Int)), some (encE p)], by simp [TL.len], fun _ => ⟨[some (enc k), some (.tup (l.map encE)), some (.int (i : Int)), some (encE p)], ?_, _, _, rfl⟩, fun h => by cases h⟩
      simp [cp1, en_call, en_dfl, d_is_counted, arrange, pick, ic]) ⟨_, _, rfl⟩).1 (by simp)
  have en : ∀ M, enumV (.tup (l.map encE)) M = .ok (enumL 0 (l.map encE), none) M := fun M => rfl
  simp [isi_tup, en, e]
theorem run_bag_of {l : Bg} (g : k.pl = true) (t : typed k l) (hd : k.dp ≤ 7) (hl : l.length < 500000) (hn : k.dp + 9 ≤ n) : run P n (.fn "bag_of") [enc (.bag k), .tup (l.map encE)] M = .ok (.tup ((norm (dsum [] l)).map encE)) M := by
  obtain ⟨n, rfl, hn⟩ := succ_of hn
  have i1 := fun M => run_check_bag g (M := M) (n := n) (by omega) (by omega)
  have i2 := fun M => run_check_pairs t (M := M) (n := n) (by omega) (by omega)
  have i3 := fun M => run_sum_of_bags (k := k) (a := []) (b := l) (n := n) (M := M) nil_bag t (by omega) (by simp only [List.length_nil]; show _ < 1000000; omega) (by omega)
  simp only [List.map_nil] at i3
  refine run_pure l_bag_of rfl rfl ?_ (und_encL _)
  simp only [enc] at i1 ⊢
  simp [t_bag_of, start', LIM, en_call, en_dfl, d_check_kind_that, d_check_pairs, d_sum_of_bags, arrange, pick, i1, i2, i3]
  rfl
theorem run_count_of {l : Bg} {x : Pv} (g : k.pl = true) (b : IsBag k l) (hx : hasP k x = true) (m1 : mB l + 3 ≤ LIM) (m2 : mP x ≤ LIM) (hd : k.dp ≤ 7) (hn : k.dp + 9 ≤ n) : run P n (.fn "count_of") [enc (.bag k), .tup (l.map encE), encP x] M = .ok (.int (cnt l x)) M := by
  obtain ⟨n, rfl, hn⟩ := succ_of hn
  have i1 := fun M => run_check_bag g (M := M) (n := n) (by omega) (by omega)
  have i2 := fun M => run_check_value (k := .bag k) (v := .bag l) (M := M) (n := n) b (by simp only [ms]; omega) (by simp only [Kd.dp]; omega) (by simp only [Kd.dp]; omega)
  have i3 := fun M => run_check_value (k := k) (v := emb x) (M := M) (n := n) (has_emb hx) (by rw [ms_emb]; exact m2) (by omega) (by omega)
  simp only [enc_emb, encV, enc] at i2 i3
  have ll := mB_len (a := l)
  have hM : (M ++ [Cell.dct (encKV l)])[M.length]? = some (.dct (encKV l)) := by simp
  have dc : bltD (run P n) .dict [.tup (l.map encE)] M = .ok (.obj M.length) (M ++ [.dct (encKV l)]) := by
    have := dictF_enc (l := l) (acc := []) (by simpa using b.nodup)
    simp only [List.nil_append, show encKV [] = [] from rfl] at this
    simp only [bltD, tlOf, Option.bind_some, pairs_enc, pairsOk_enc b.ty (show k.dp ≤ 8 by omega) (show l.length ≤ LIM by omega), if_true, newCell, this]
  have ga := get_acc (x := x) hM b.ty hx (by omega)
  have ra := rec_acc hM
  rw [dget_cnt b.nodup] at ga
  have : M = (M ++ [Cell.dct (encKV l)]).take M.length := by simp
  conv => rhs; rw [this]
  refine run_ret l_count_of rfl rfl ?_ rfl
  simp only [enc] at i1 ⊢
  simp [t_count_of, start', LIM, en_call, en_dfl, d_check_kind_that, d_check_value, arrange, pick, i1, i2, i3, dc, ga, ra]
theorem run_support_of {l : Bg} (g : k.pl = true) (b : IsBag k l) (m1 : mB l + 3 ≤ LIM) (hd : k.dp ≤ 7) (hn : k.dp + 9 ≤ n) : run P n (.fn "support_of") [enc (.bag k), .tup (l.map encE)] M = .ok (.tup ((l.filter fun p => decide (0 < p.2)).map fun p => encE (p.1, 1))) M := by
  obtain ⟨n, rfl, hn⟩ := succ_of hn
  have i1 := fun M => run_check_bag g (M := M) (n := n) (by omega) (by omega)
  have i2 := fun M => run_check_value (k := .bag k) (v := .bag l) (M := M) (n := n) b (by simp only [ms]; omega) (by simp only [Kd.dp]; omega) (by simp only [Kd.dp]; omega)
  simp only [encV, enc] at i2
  have ll := mB_len (a := l)
  refine run_pure l_support_of rfl rfl ?_ (by
    have := und_encL (m := M.length) ((l.filter fun p => decide (0 < p.2)).map fun p => (p.1, (1 : Int)))
    rw [List.map_map] at this
    exact this)
  have N4 : start' t_support_of.N [enc (.bag k), .tup (l.map encE)] = [some (enc (.bag k)), some (.tup (l.map encE)), none, none] := rfl
  rw [N4]
  simp only [enc] at i1 ⊢
  simp only [t_support_of, exs_cons, ex_ret]
  simp [-ev_comp, en_call, en_dfl, d_check_kind_that, d_check_value, arrange, pick, i1, i2]
  simp only [ev_comp, evi_val, ev_var, List.getElem?_cons_zero, List.getElem?_cons_succ, Res.bind_ok, walk_tup, wipe', List.map_cons, List.map_nil, List.set_cons_succ, List.set_cons_zero]
  rw [compL_fm (h := encE) (φ := fun p => encE (p.1, 1)) (ψ := fun p => decide (0 < p.2)) (l := l)]
  · simp only [List.nil_append, fresh_f, Res.bind_ok, bltD, lrOf, evs_nil] <;> rfl
  · intro p hp
    exact ⟨[some (.tup [.str "bag", enc k]), some (.tup (l.map encE)), some (encP p.1), some (.int p.2)], by simp [encE, TL.len], by simp, by simp [encE, LIM]⟩
  · have m1 : mB l + 3 ≤ 1000000 := m1
    simp only [List.length_nil, Nat.zero_add]; show _ ≤ 1000000; omega
end
end Cw

set_option Elab.async false
set_option linter.all false
set_option maxRecDepth 100000
set_option maxHeartbeats 2000000
-- from: k03
/-! PL03: one world of k03. -/
namespace Ev
section
variable {w : Option Nat} {all : List D} {g : D → St' → Mem → Res St'} {f : St' → Mem → Res Flow'} {M : Mem}
/-- a walk over a cell that stays, to its end -/
theorem forL_allW (hw : chkW w all M = true) {Inv : St' → Prop} {xs : List D} : ∀ {σ : St'}, (∀ x ∈ xs, ∀ σ, Inv σ → ∃ σ1, g x σ M = .ok σ1 M ∧ ∃ σ2, f σ1 M = .ok (.next σ2) M ∧ Inv σ2) → Inv σ →
    ∃ σ', forL w all g f xs σ M = .ok (.next σ') M ∧ Inv σ' := by
  induction xs with
  | nil => intro σ _ h0; exact ⟨σ, forW_nil hw, h0⟩
  | cons x r ih =>
    intro σ step h0
    obtain ⟨σ1, e1, σ2, e2, i2⟩ := step x List.mem_cons_self σ h0
    obtain ⟨σ3, e3, i3⟩ := ih (σ := σ2) (fun x hx => step x (List.mem_cons_of_mem _ hx)) i2
    refine ⟨σ3, ?_, i3⟩
    rw [forW_cons hw, e1]; simp only [Res.bind_ok]; rw [e2]; simp only [Res.bind_ok, loopK]; exact e3
end
end Ev
namespace Cw
open Ev
open PySem (Str PyData)
section
variable {j n : Nat} {M : Mem}
theorem D4.vb {k : Kd} {v : Vl} (h : D4 k v) (hk : k.dp ≤ 4) : Vb 73 5120 k v := by
  have b4 : 2 ^ k.dp ≤ 2 ^ 4 := pow_max (b := 0) hk
  exact ⟨h.hs, bdV_mono (by decide) h.bd, by have := h.m2; omega⟩
theorem W4.app {M : Mem} {c : Cell} (w : W4 M j) : W4 (M ++ [c]) j := by
  have hj := w.lt
  obtain ⟨a, b, d, e, h⟩ := w
  exact ⟨a, b, d, e, by rw [List.getElem?_append_left hj]; exact h⟩
/-- a cell of one's own, made behind M -/
structure O4 (j : Nat) (M : Mem) (M' : Mem) (c : Cell) : Prop where
  len : M'.length = M.length + 1
  wl : W4 M' j
  cell : M'[M.length]? = some c
  fr : ∀ i, i ≠ j → i < M.length → M'[i]? = M[i]?
theorem O4.new {M : Mem} {c : Cell} (w : W4 M j) : O4 j M (M ++ [c]) c := ⟨by simp, w.app, by simp, fun i _ h => by rw [List.getElem?_append_left h]⟩
theorem O4.step {M M1 M2 : Mem} {c : Cell} (hj : j < M.length) (o : O4 j M M1 c) (s : S4 j M1 M2) : O4 j M M2 c :=
  ⟨by rw [s.1, o.len], s.2, by rw [s.3 _ (by omega)]; exact o.cell, fun i hi h => by rw [s.3 i hi]; exact o.fr i hi h⟩
theorem O4.set {M M1 : Mem} {c d : Cell} (hj : j < M.length) (o : O4 j M M1 c) : O4 j M (M1.set M.length d) d := by
  refine ⟨by simp [o.len], ?_, at_set (by rw [o.len]; omega), fun i hi h => by rw [List.getElem?_set_ne (by omega)]; exact o.fr i hi h⟩
  obtain ⟨a, b, e, f, h⟩ := o.wl
  exact ⟨a, b, e, f, by rw [List.getElem?_set_ne (by omega)]; exact h⟩
theorem O4.take {M M1 : Mem} {c : Cell} (w : W4 M j) (o : O4 j M M1 c) : S4 j M (M1.take M.length) := by
  have hj := w.lt
  have lt : (M1.take M.length).length = M.length := by rw [List.length_take, o.len]; omega
  refine ⟨lt, ?_, fun i hi => ?_⟩
  · obtain ⟨a, b, e, f, h⟩ := o.wl
    exact ⟨a, b, e, f, by rw [List.getElem?_take_of_lt hj]; exact h⟩
  · by_cases q : i < M.length
    · rw [List.getElem?_take_of_lt q]; exact o.fr i hi q
    · rw [List.getElem?_eq_none (by omega), List.getElem?_eq_none (by omega)]
theorem app_obj {L : Nat} {M : Mem} {xs : List D} {x : D} (h : M[L]? = some (.lst xs)) (hl : xs.length < 1000000) (u : x.und L = true) : metD .append (.obj L) [x] M = .ok .non (M.set L (.lst (xs ++ [x]))) := by
  have q : xs.length < LIM := hl
  simp only [metD, h, q, u, decide_true, Bool.and_self, if_true]
theorem recA_obj {L : Nat} {M : Mem} {xs : List D} (h : M[L]? = some (.lst xs)) : recD .append M (.obj L) = true := by simp only [recD, h]
theorem mul_2 {d : D} {M : Mem} : binD .Mult (.lst [d]) (.int 2) M = .ok (.lst [d, d]) M := by
  have h : (0 : Int) ≤ (2 : Int) ∧ (2 : Int) ≤ 1000 ∧ [d].length ≤ 1000 := by simp
  simp only [binD, lstOf, h, and_self, if_true]
  rfl
theorem run_is_value_any {k : Kd} {d : D} {n : Nat} {M : Mem} (g : k.dt = true) (h : tame d = true) (hk : k.dp ≤ 9) (hn : 40 ≤ n) : run P n (.fn "is_value") [enc k, d] M = .ok (.bl (vb k d)) M := by
  obtain ⟨n, rfl⟩ : ∃ m, n = m + 1 := ⟨n - 1, by omega⟩
  have i1 := fun M => run_check_data (M := M) (n := n) g (by omega) (by omega)
  have i2 := fun M => run_is_valued_any k d n M h (dt_wf g) (by omega) (by omega)
  refine run_pure l_is_value rfl rfl ?_ und_bl
  simp [t_is_value, start', en_call, en_dfl, d_check_data, d_is_valued, arrange, pick, i1, i2]
def av1 : SL := (.cons (.ex (.met .append (.var 4) (.cons (.call "_law_spoilt" (.cons (.var 0) (.cons (.var 2) .nil)) .nil [.inl 0, .inl 1]) .nil)))
  .nil)
def av2 : SL := (.cons (.if_ (.not_ (.call "_law_same" (.cons (.lst false (.cons (.call "is_value" (.cons (.var 1) (.cons (.var 6) .nil)) .nil [.inl 0, .inl 1]) (.cons (.call "is_value" .nil (.cons (.var 6) (.cons (.var 1) .nil)) [.inl 1, .inl 0]) .nil))) (.cons (.bin .Mult (.lst false (.cons (.call "_law_is_value" (.cons (.var 1) (.cons (.var 6) .nil)) .nil [.inl 0, .inl 1]) .nil)) (.k (.int 2))) .nil)) .nil [.inl 0, .inl 1]))
  (.cons (.ret (.k (.bl false)))
  .nil)
  .nil)
  (.cons (.if_ (.not_ (.call "_law_same" (.cons (.call "is_value" (.cons (.var 3) (.cons (.var 6) .nil)) .nil [.inl 0, .inl 1]) (.cons (.call "_law_is_value" (.cons (.var 3) (.cons (.var 6) .nil)) .nil [.inl 0, .inl 1]) .nil)) .nil [.inl 0, .inl 1]))
  (.cons (.ret (.k (.bl false)))
  .nil)
  .nil)
  .nil))
theorem av_body : t__law_are_values.body = (.cons (.asg (.var 1) (.call "_law_data" (.cons (.var 0) (.cons (.k (.int 4)) .nil)) .nil [.inl 0, .inl 1]))
  (.cons (.par [2, 3] (.cons (.call "_law_value" (.cons (.var 0) (.cons (.var 1) .nil)) .nil [.inl 0, .inl 1]) (.cons (.call "_law_data" (.cons (.var 0) (.cons (.k (.int 3)) .nil)) .nil [.inl 0, .inl 1]) .nil)))
  (.cons (.asg (.var 4) (.lst true (.cons (.var 2) (.cons (.call "_law_odd" (.cons (.var 0) .nil) .nil [.inl 0]) .nil))))
  (.cons (.for_ (.var 5) (.rng1 (.k (.int 4))) av1)
  (.cons (.for_ (.var 6) (.val (.var 4)) av2)
  (.cons (.ret (.call "_law_is_value" (.cons (.var 1) (.cons (.var 2) .nil)) .nil [.inl 0, .inl 1]))
  .nil)))))) := rfl
theorem same_bl {b : Bool} (hn : 20 ≤ n) : run P n (.fn "_law_same") [.bl b, .bl b] M = .ok (.bl true) M := run_lsame (m := 1) (by simp [shw]) (by decide) (by simp only [mD]; decide) (by omega)
theorem same_bls {b : Bool} (hn : 20 ≤ n) : run P n (.fn "_law_same") [.lst [.bl b, .bl b], .lst [.bl b, .bl b]] M = .ok (.bl true) M := run_lsameL (C := 5) (sw_two (.bl (by decide)) (.bl (by decide))) (by simp) hn
theorem run_values3 (w : W4 M j) (hn : 45 ≤ n) : ∃ M', run P n (.fn "_law_are_values") [.obj j] M = .ok (.bl true) M' ∧ S4 j M M' := by
  obtain ⟨n, rfl⟩ : ∃ m, n = m + 1 := ⟨n - 1, by omega⟩
  obtain ⟨k, M1, e1, g, dk, s1⟩ := run_dataK n M 4 w (by decide) (by omega)
  have hk : k.dp ≤ 4 := by omega
  obtain ⟨v, M2, e2, d2, s2⟩ := run_value4 k (n := n) (M := M1) g s1.2 (by omega) (by omega)
  obtain ⟨k2, M3, e3, g2, dk2, s3⟩ := run_dataK n M2 3 s2.2 (by decide) (by omega)
  obtain ⟨o, M4, e4, t4, s4⟩ := run_odd4 (n := n) s3.2 (by omega)
  have s := ((s1.trans s2).trans s3).trans s4
  have vm := (d2.vb hk).m
  have tv : tm 5120 (encV v) = true := tm_encV (by decide) vm
  have to : tm 5121 o = true := tm_mono (by decide) t4
  have hj : j < M4.length := by rw [s.1]; exact w.lt
  obtain ⟨σ1, M5, e5, ⟨o5, o6, rfl⟩, l, hl, ll, ow⟩ := forW_inv (w := none) (all := rngL 0 4) (xs := rngL 0 4) (σ := [some (.obj j), some (enc k), some (encV v), some (enc k2), some (.obj M4.length), none, none]) (M := M4 ++ [.lst [encV v, o]])
      (Inv := fun i σ M' => (∃ o5 o6, σ = [some (.obj j), some (enc k), some (encV v), some (enc k2), some (.obj M4.length), o5, o6]) ∧ ∃ l : List D, (∀ d ∈ l, tm 5121 d = true) ∧ l.length ≤ 2 + i ∧ O4 j M4 M' (.lst l))
      (g := fun d σ M => asT (P.en (run P n)) (.var 5) d σ M) (f := fun σ M => exs (P.en (run P n)) av1 σ M)
      (fun _ _ _ _ _ => chkW_none)
      (fun i d σ M' hd inv => by
        obtain ⟨⟨o5, o6, rfl⟩, l, hl, ll, ow⟩ := inv
        have hi := (rngL_get hd).2
        obtain ⟨x, M6, e6, t6, s6⟩ := run_spoilt (n := n) ow.wl tv (by decide) (by decide) (by omega)
        have ow6 := ow.step hj s6
        have ap := app_obj (x := x) ow6.cell (by omega) (tame_und (tm_tame (by decide) t6))
        refine ⟨[some (.obj j), some (enc k), some (encV v), some (enc k2), some (.obj M4.length), some d, o6], M', by simp, [some (.obj j), some (enc k), some (encV v), some (enc k2), some (.obj M4.length), some d, o6], M6.set M4.length (.lst (l ++ [x])), ?_, ⟨_, _, rfl⟩, l ++ [x], fun y hy => ?_, by simp; omega, ow6.set hj⟩
        · simp [av1, recA_obj ow.cell, en_call, en_dfl, d__law_spoilt, arrange, pick, e6, ap]
        · rcases List.mem_append.mp hy with hy | hy
          · exact hl y hy
          · rw [List.mem_singleton] at hy; rw [hy]; exact t6)
      ⟨⟨_, _, rfl⟩, _, fun d hd => by
        simp only [List.mem_cons, List.not_mem_nil, or_false] at hd
        rcases hd with rfl | rfl
        · exact tm_mono (by decide) tv
        · exact to, by simp, O4.new s.2⟩
  obtain ⟨σ2, e6, o6', rfl⟩ := forL_allW (w := some M4.length) (all := l) (xs := l) (M := M5) (chkW_some ow.cell) (g := fun d σ M => asT (P.en (run P n)) (.var 6) d σ M) (f := fun σ M => exs (P.en (run P n)) av2 σ M) (σ := [some (.obj j), some (enc k), some (encV v), some (enc k2), some (.obj M4.length), o5, o6])
    (Inv := fun σ => ∃ o6, σ = [some (.obj j), some (enc k), some (encV v), some (enc k2), some (.obj M4.length), o5, o6]) (fun d hd σ hs => by
      obtain ⟨o6, rfl⟩ := hs
      have td : tame d = true := tm_tame (N := 5121) (by decide) (hl d hd)
      have a1 := fun M => run_is_value_any (M := M) (n := n) g td (by omega) (by omega)
      have a2 := fun M => run_lvalue3 k d n M td g (by omega) (by omega)
      have a3 := fun M => run_is_value_any (M := M) (n := n) g2 td (by omega) (by omega)
      have a4 := fun M => run_lvalue3 k2 d n M td g2 (by omega) (by omega)
      have b1 := fun b M => same_bls (b := b) (M := M) (n := n) (by omega)
      have b2 := fun b M => same_bl (b := b) (M := M) (n := n) (by omega)
      refine ⟨[some (.obj j), some (enc k), some (encV v), some (enc k2), some (.obj M4.length), o5, some d], by simp, [some (.obj j), some (enc k), some (encV v), some (enc k2), some (.obj M4.length), o5, some d], ?_, _, rfl⟩
      simp [av2, LIM, en_call, en_dfl, d_is_value, d__law_is_value, d__law_same, arrange, pick, a1, a2, a3, a4, b1, b2, mul_2]) ⟨_, rfl⟩
  have wk : walkV (.obj M4.length) M5 = .ok (l, some M4.length) M5 := by simp only [walkV, ow.cell]
  have a5 := fun M => run_lvalue3 k (encV v) n M (tm_tame (N := 5120) (by decide) tv) g (by omega) (by omega)
  rw [vb_enc d2.hs] at a5
  have tk := ow.take s.2
  refine ⟨M5.take M4.length, ?_, s.trans tk⟩
  rw [s.1]
  have rg : ∀ M, rng1V (.int 4) M = .ok (rngL 0 4, none) M := fun M => rng1_ok (by decide) (by decide)
  refine run_ret l__law_are_values rfl rfl ?_ und_bl
  have N7 : start' t__law_are_values.N [.obj j] = [some (.obj j), none, none, none, none, none, none] := rfl
  simp only [asT_var] at e5 e6
  rw [av_body, N7]
  simp [LIM, setAll, en_call, en_dfl, d__law_data, d__law_value, d__law_odd, arrange, pick, e1, e2, e3, e4, rg, e5, wk, e6, d__law_is_value, a5]
theorem sw_sgn {a b : Pv} {C : Nat} (hC : 5 ≤ C) : Sw C (.int (sgn a b)) := by
  have : sgn a b = 0 ∨ sgn a b = 1 ∨ sgn a b = -1 := by
    unfold sgn
    by_cases h : a = b
    · simp [h]
    · cases h2 : plt a b <;> simp [h]
  rcases this with h | h | h <;> rw [h] <;> exact ⟨by decide +kernel, Nat.le_trans (show _ ≤ 5 by decide +kernel) hC⟩
theorem run_ordered3 (w : W4 M j) (hn : 45 ≤ n) : ∃ M', run P n (.fn "_law_are_ordered") [.obj j] M = .ok (.bl true) M' ∧ S4 j M M' := by
  obtain ⟨n, rfl⟩ : ∃ m, n = m + 1 + 1 := ⟨n - 2, by omega⟩
  obtain ⟨k, M1, e1, g, dk, s1⟩ := run_plainK (n + 1) M 4 w (by decide) (by omega)
  have hk : k.dp ≤ 4 := by omega
  have b4 : 2 ^ k.dp ≤ 2 ^ 4 := pow_max (b := 0) hk
  have val : ∀ M, W4 M j → ∃ p M', run P (n + 1) (.fn "_law_value") [.obj j, enc k] M = .ok (encP p) M' ∧ (hasP k p = true ∧ mP p ≤ 5120) ∧ S4 j M M' := fun M w => by
    obtain ⟨v, M', e, d, s⟩ := run_value4 k (n := n + 1) (M := M) (pl_dt g) w (by omega) (by omega)
    obtain ⟨p, hp, rfl⟩ := emb_has g d.hs
    have := d.m2
    rw [ms_emb] at this
    exact ⟨p, M', by rw [e, enc_emb], ⟨hp, by omega⟩, s⟩
  obtain ⟨a, M2, e2, ha, s2⟩ := val M1 s1.2
  obtain ⟨b, M3, e3, hb, s3⟩ := val M2 s2.2
  obtain ⟨r, M4, hr, r0, r1, s4⟩ := run_draw (n := n) (M := M3) (m := 4) s3.2 (by decide) (by decide)
  have s := ((s1.trans s2).trans s3).trans s4
  obtain ⟨b', hb', e4⟩ : ∃ b', (hasP k b' = true ∧ mP b' ≤ 5120) ∧ ev (P.en (run P (n + 1))) (.ite (.cmp .Gt (.call "_law_draw" (.cons (.var 0) (.cons (.k (.int 4)) .nil)) .nil [.inl 0, .inl 1]) (.k (.int 0))) (.var 3) (.var 2)) [some (.obj j), some (enc k), some (encP a), some (encP b), none, none] M3 = .ok (encP b') M4 := by
    by_cases h0 : 0 < r
    · exact ⟨b, hb, by simp [en_call, en_dfl, d__law_draw, arrange, pick, hr, h0]⟩
    · exact ⟨a, ha, by simp [en_call, en_dfl, d__law_draw, arrange, pick, hr, h0]⟩
  have OR : ∀ {a b : Pv}, hasP k a = true ∧ mP a ≤ 5120 → hasP k b = true ∧ mP b ≤ 5120 → ∀ M, run P (n + 1) (.fn "order") [enc k, encP a, encP b] M = .ok (.int (sgn a b)) M := fun ha hb M => run_order g ha.1 hb.1 (Nat.le_trans ha.2 (by decide)) (Nat.le_trans hb.2 (by decide)) (by omega) (by omega)
  have o1 := OR ha hb'
  have o2 := OR hb' ha
  have o3 := OR ha ha
  rw [sgn_refl] at o3
  have lo := fun M => run_lorder g (n := n + 1) (M := M) ha.1 hb'.1 (by omega)
  have ng := sgn_neg ha.1 hb'.1
  simp only [Int.zero_sub] at ng
  have z0 : Sw 5 (.int 0) := ⟨by decide +kernel, by decide +kernel⟩
  have q := fun M => run_lsameL (C := 5) (n := n + 1) (M := M) (sw_3 (sw_sgn (a := a) (b := b') (by decide)) (sw_sgn (a := b') (b := a) (by decide)) z0) (by simp) (by omega)
  refine ⟨M4, ?_, s⟩
  have N6 : start' t__law_are_ordered.N [.obj j] = [some (.obj j), none, none, none, none, none] := rfl
  have md : t__law_are_ordered.mode = .drop := rfl
  rw [run_step l__law_are_ordered rfl, N6, md, ← s.1]
  simp only [t__law_are_ordered, exs_cons]
  simp [-ev_ite, LIM, setAll, en_call, en_dfl, d__law_plain, d__law_value, arrange, pick, e1, e2, e3, e4, d__law_order, d_order, d__law_same, lo, o1, o2, o3, ng, q]
end
end Cw

set_option Elab.async false
set_option linter.all false
set_option maxRecDepth 100000
set_option maxHeartbeats 2000000
-- from: k03
/-! PL03b: k03: sums, bags, one world. -/
namespace Cw
open Ev
open PySem (Str PyData)
section
variable {k : Kd} {N N' B B' : Nat} {v w : Vl} {i : Int} {c : Nat}
theorem Vb.plusG (g : k.gr = true) (hv : Vb N B k v) (hw : Vb N' B' k w) (h3 : 3 ≤ N) (h4 : 3 ≤ N') : Vb (N + N') (B + B') k (vplus v w) :=
  ⟨plus_has g hv.h hw.h, bd_plus g h3 h4 hv.h hw.h hv.b hw.b, Nat.le_trans (ms_plus g hv.h hw.h) (Nat.add_le_add hv.m hw.m)⟩
theorem Vb.timesG (g : k.gr = true) (hv : Vb N B k v) (hi : mI i ≤ c) : Vb (c + N) (B * c) k (vtimes i v) :=
  ⟨times_has g hv.h, bd_times hi hv.b, Nat.le_trans ms_times (Nat.mul_le_mul hv.m hi)⟩
theorem Vb.negG (g : k.gr = true) (hv : Vb N B k v) : Vb (3 + N) B k (vtimes (-1) v) :=
  ⟨times_has g hv.h, bd_times (by decide +kernel) hv.b, Nat.le_trans ms_neg hv.m⟩
end
theorem add_listsG {a b : List D} {M : Mem} (h : a.length + b.length ≤ 1000000) : binD .Add (.lst a) (.lst b) M = .ok (.lst (a ++ b)) M := add_ll h
theorem idx_1L {a b : D} {l : List D} {M : Mem} : idxD (.lst (a :: b :: l)) (.int 1) M = .ok b M := idx_natL (n := 1) rfl
theorem sli_to1L {a : D} {l : List D} {M : Mem} : sliD (.lst (a :: l)) none (some 1) M = .ok (.lst [a]) M := by
  have := cutL_to (l := a :: l) (n := 1)
  simp only [sliD, lrOf]
  exact congrArg (fun z => Res.ok (D.lst z) M) this
theorem run_lsameO {L n : Nat} {l : List D} {M : Mem} {m : Nat} (hM : M[L]? = some (.lst l)) (h : shw m (.lst l) = true) (hm : m ≤ 60) (hl : mD (.lst l) ≤ LIM) (hn : 1 ≤ n) : run P n (.fn "_law_same") [.obj L, .lst l] M = .ok (.bl true) M := by
  obtain ⟨n, rfl, _⟩ := succ_of (m := 0) hn
  obtain ⟨s, h1, h2⟩ := repr_ok (call := (P.en (run P n)).call) h hm hl
  have h3 : bltD (P.en (run P n)).call .repr [.obj L] M = .ok (.str s.shown) M := by
    have := h2 M
    have t1 : D.top M (.lst l) = .lst l := rfl
    have t2 : D.top M (.obj L) = .lst l := by simp only [D.top, hM]
    simp only [bltD, t1, t2] at this ⊢
    exact this
  refine run_pure l__law_same rfl rfl ?_ und_bl
  have N2 : start' t__law_same.N [.obj L, .lst l] = [some (.obj L), some (.lst l)] := rfl
  rw [N2]
  simp [t__law_same, h2, h3]
section
variable {j n : Nat} {M : Mem}
theorem run_sums3 (w : W4 M j) (hn : 45 ≤ n) : ∃ M', run P n (.fn "_law_are_sums") [.obj j] M = .ok (.bl true) M' ∧ S4 j M M' := by
  obtain ⟨n, rfl⟩ : ∃ m, n = m + 1 + 1 := ⟨n - 2, by omega⟩
  obtain ⟨k, M1, e1, g, dk, s1⟩ := run_groupK (n + 1) M 4 w (by decide) (by omega)
  have hk : k.dp ≤ 4 := by omega
  have k9 : k.dp ≤ 9 := by omega
  have b4 : 2 ^ k.dp ≤ 2 ^ 4 := pow_max (b := 0) hk
  obtain ⟨a, M2, e2, d2, s2⟩ := run_value4 k (n := n + 1) (M := M1) (gr_dt g) s1.2 (by omega) (by omega)
  obtain ⟨b, M3, e3, d3, s3⟩ := run_value4 k (n := n + 1) (M := M2) (gr_dt g) s2.2 (by omega) (by omega)
  obtain ⟨t, M4, e4, ht, s4⟩ := run_pick (n := n + 1) (M := M3) (l := [.int 0, .int 1, .int (-1), .int 2, .int 3, .int (-3), .int 7, .int 1000000000]) s3.2 (by simp) (by decide) (by simp [unds, D.und]) (by omega)
  obtain ⟨t, rfl, t64, tm⟩ : ∃ i : Int, t = .int i ∧ i64 i = true ∧ mI i ≤ 33 := by
    simp only [List.mem_cons, List.not_mem_nil, or_false] at ht
    rcases ht with h | h | h | h | h | h | h | h <;> exact ⟨_, h, by decide +kernel, by decide +kernel⟩
  obtain ⟨r, M5, hr, r0, r1, s5⟩ := run_draw (n := n) (M := M4) (m := 4) s4.2 (by decide) (by decide)
  have s := (((s1.trans s2).trans s3).trans s4).trans s5
  have p9 : ∀ M, binD .Pow (.int 10) (.int 9) M = .ok (.int 1000000000) M := fun M => by simp [binD]
  have ha := d2.vb hk
  have hb0 := d3.vb hk
  obtain ⟨b', e5, hb⟩ : ∃ b', ev (P.en (run P (n + 1))) (.ite (.cmp .Gt (.call "_law_draw" (.cons (.var 0) (.cons (.k (.int 4)) .nil)) .nil [.inl 0, .inl 1]) (.k (.int 0))) (.var 3) (.call "_law_many" (.cons (.var 1) (.cons (.una .USub (.k (.int 1))) (.cons (.var 2) .nil))) .nil [.inl 0, .inl 1, .inl 2])) [some (.obj j), some (enc k), some (encV a), some (encV b), some (.int t), none, none, none] M4 = .ok (encV b') M5 ∧ Vb 73 5120 k b' := by
    by_cases h0 : 0 < r
    · exact ⟨b, by simp [en_call, en_dfl, d__law_draw, arrange, pick, hr, h0], hb0⟩
    · have lm := fun M => run_lmany4 (i := -1) (by decide +kernel) g (n := n + 1) (M := M) ha.h (Nat.le_trans ha.m (by decide)) (by omega)
      exact ⟨vtimes (-1) a, by simp [en_call, en_dfl, d__law_draw, d__law_many, arrange, pick, hr, h0, lm], ⟨times_has g ha.h, bd_times (n := 70) (m := 3) (by decide +kernel) d2.bd, Nat.le_trans ms_neg ha.m⟩⟩
  have hz : Vb 73 5120 k (vzero k) := ⟨zero_has g, bdV_mono (by decide) bd_zero, by have := ms_zero g; omega⟩
  have hab := ha.plusG g hb (by decide) (by decide)
  have na := ha.negG g
  have nb := hb.negG g
  have ta := ha.timesG g tm
  have tb := hb.timesG g tm
  have LS := fun M => run_lsum g (n := n + 1) (M := M) ha.h hb.h (Nat.le_trans (Nat.add_le_add ha.m hb.m) (by decide)) (by omega)
  have SO := fun M => run_sum_of g (n := n + 1) (M := M) ha.h hb.h (Nat.le_trans (Nat.add_le_add ha.m hb.m) (by decide)) k9 (by omega)
  have O1 := fun M => run_opposite g (n := n + 1) (M := M) ha.h (Nat.le_trans ha.m (by decide)) k9 (by omega)
  have O2 := fun M => run_opposite g (n := n + 1) (M := M) hb.h (Nat.le_trans hb.m (by decide)) k9 (by omega)
  have L1 := fun M => run_lmany4 (i := -1) (by decide +kernel) g (n := n + 1) (M := M) ha.h (Nat.le_trans ha.m (by decide)) (by omega)
  have L2 := fun M => run_lmany4 (i := -1) (by decide +kernel) g (n := n + 1) (M := M) hb.h (Nat.le_trans hb.m (by decide)) (by omega)
  have T1 := fun M => run_lmany4 t64 g (n := n + 1) (M := M) ha.h (Nat.le_trans ha.m (by decide)) (by omega)
  have T2 := fun M => run_lmany4 t64 g (n := n + 1) (M := M) hb.h (Nat.le_trans hb.m (by decide)) (by omega)
  have Y1 := fun M => run_many_of t64 g (n := n + 1) (M := M) ha.h (Nat.le_trans ha.m (by decide)) k9 (by omega)
  have Y2 := fun M => run_many_of t64 g (n := n + 1) (M := M) hb.h (Nat.le_trans hb.m (by decide)) k9 (by omega)
  have z1 := fun M => run_zero_of g (M := M) (n := n + 1) k9 (by omega)
  have z2 := fun M => run_lzero4 g (M := M) (n := n + 1) (by omega)
  have Sab : Sw 170000 (encV (vplus a b')) := hab.sw k9 (by decide) (by decide)
  have Sz : Sw 170000 (encV (vzero k)) := hz.sw k9 (by decide) (by decide)
  have Sna : Sw 170000 (encV (vtimes (-1) a)) := na.sw k9 (by decide) (by decide)
  have Snb : Sw 170000 (encV (vtimes (-1) b')) := nb.sw k9 (by decide) (by decide)
  have Sta : Sw 170000 (encV (vtimes t a)) := ta.sw k9 (by decide) (by decide)
  have Stb : Sw 170000 (encV (vtimes t b')) := tb.sw k9 (by decide) (by decide)
  have q1 := fun M => run_lsameL (C := 170000) (n := n + 1) (M := M) (sw_5 Sz Sab Sna Sta Sz) (by simp) (by omega)
  have c1 : (M5 ++ [Cell.lst [encV (vplus a b'), encV (vtimes (-1) b')]])[M5.length]? = some (.lst [encV (vplus a b'), encV (vtimes (-1) b')]) := by simp
  have ap := app_obj (x := encV (vtimes t b')) c1 (by simp) (und_encV _)
  have st : (M5 ++ [Cell.lst [encV (vplus a b'), encV (vtimes (-1) b')]]).set M5.length (.lst ([encV (vplus a b'), encV (vtimes (-1) b')] ++ [encV (vtimes t b')])) = M5 ++ [Cell.lst [encV (vplus a b'), encV (vtimes (-1) b'), encV (vtimes t b')]] := by
    rw [List.set_append_right _ _ (Nat.le_refl _)]; simp
  rw [st] at ap
  have c2 : (M5 ++ [Cell.lst [encV (vplus a b'), encV (vtimes (-1) b'), encV (vtimes t b')]])[M5.length]? = some (.lst [encV (vplus a b'), encV (vtimes (-1) b'), encV (vtimes t b')]) := by simp
  have w3 := sw_3 Sab Snb Stb
  have q2 := run_lsameO (n := n + 1) (m := 11) c2 (shw_all fun d hd => (w3 d hd).s) (by omega) (Nat.le_trans (by simp only [mD]; have := mDs_le fun d hd => (w3 d hd).m; simp only [List.length_cons, List.length_nil] at this; omega) (show 3 + 3 * (170000 + 2) ≤ 1000000 by decide)) (by omega)
  have al := fun (x y z u v : D) M => add_listsG (a := [x, y, z, u]) (b := [v]) (M := M) (by simp)
  simp only [List.cons_append, List.nil_append] at al
  have fin : M5 = (M5 ++ [Cell.lst [encV (vplus a b'), encV (vtimes (-1) b'), encV (vtimes t b')]]).take M.length := by
    rw [← s.1]; simp
  refine ⟨M5, ?_, s⟩
  conv => rhs; rw [fin]
  refine run_ret l__law_are_sums rfl rfl ?_ und_bl
  have N8 : start' t__law_are_sums.N [.obj j] = [some (.obj j), none, none, none, none, none, none, none] := rfl
  rw [N8]
  simp only [t__law_are_sums, exs_cons]
  simp [-ev_ite, LIM, setAll, en_call, en_dfl, d__law_group, d__law_value, d__law_pick, arrange, pick, e1, e2, e3, e4, e5, p9, d_zero_of, d_sum_of, d_opposite, d_many_of, d__law_zero, d__law_sum, d__law_many, d__law_same, LS, SO, O1, O2, L1, L2, T1, T2, Y1, Y2, z1, z2, q1, sli_to1L, al, recA_obj c1, ap, q2, idx_1L]
end
/-! bags -/
theorem sum_cnt {x : Pv} : ∀ {l : Bg}, ((l.filter fun p => decide (p.1 = x)).map (·.2)).sum = cnt l x
  | [] => rfl
  | p :: r => by
    by_cases h : p.1 = x
    · rw [List.filter_cons_of_pos (by simpa using h)]
      simp only [List.map_cons, List.sum_cons, cnt, h, if_true, sum_cnt (l := r)]
    · rw [List.filter_cons_of_neg (by simpa using h)]
      simp only [cnt, h, if_false, sum_cnt (l := r), Int.zero_add]
theorem norm_self {k : Kd} {b : Bg} (h : IsBag k b) : norm (dsum [] b) = b := by
  rw [dsum_new (by simpa using h.nodup), List.nil_append]
  exact bag_ext (norm_bag h.nodup h.ty) h fun y => cnt_norm h.nodup
section
variable {j n : Nat} {M : Mem}
theorem run_pickO {L : Nat} {l : List D} (w : W4 M j) (hL : M[L]? = some (.lst l)) (hj : L ≠ j) (h0 : l ≠ []) (h1 : l.length < 1000) (hu : unds M.length l = true) (hn : 2 ≤ n) : ∃ d M', run P n (.fn "_law_pick") [.obj j, .obj L] M = .ok d M' ∧ d ∈ l ∧ S4 j M M' := by
  obtain ⟨n, rfl⟩ : ∃ m, n = m + 1 + 1 := ⟨n - 2, by omega⟩
  have hp : 0 < l.length := List.length_pos_iff.mpr h0
  obtain ⟨r, M', hr, r0, r1, st⟩ := run_draw (n := n) (M := M) (m := l.length) w (by omega) (by omega)
  obtain ⟨k, rfl⟩ : ∃ k : Nat, r = k := ⟨r.toNat, by omega⟩
  have hk : k < l.length := by omega
  have hL' : M'[L]? = some (.lst l) := by rw [st.3 L hj]; exact hL
  have hi : idxD (.obj L) (.int k) M' = .ok l[k] M' := idx_obj hL' (by simp [hk])
  have hlen : bltD (run P (n + 1)) .len [.obj L] M = .ok (.int l.length) M := by simp only [bltD, seqOf, hL]
  refine ⟨l[k], M', ?_, List.getElem_mem hk, st⟩
  rw [run_step l__law_pick rfl]
  simp [t__law_pick, start', en_call, en_dfl, d__law_draw, arrange, pick, hlen, hr, hi]
  refine leave_und ?_ st.1.symm
  rw [unds_all, List.all_eq_true] at hu
  exact hu _ (List.getElem_mem hk)
theorem cmp_neO {L : Nat} {l : Bg} {k : Kd} (t : typed k l) (hk : k.dp ≤ 50) (hM : M[L]? = some (.lst (l.map encE))) : cmpD .NotEq (.obj L) (.lst []) M = .ok (.bl (!l.isEmpty)) M := by
  have h0 : D.sh 60 (.lst []) = true := by simp [D.sh, shs]
  have h1 : D.pl (.lst (l.map encE)) = true := by
    simp only [D.pl]
    have : ∀ l : Bg, pls (l.map encE) = true := fun l => by
      induction l with
      | nil => simp [pls]
      | cons p r ih => simp only [List.map_cons, pls, pl_encE, ih, Bool.and_self]
    exact this l
  have t2 : D.top M (.obj L) = .lst (l.map encE) := by simp only [D.top, hM]
  have t3 : D.top M (.lst []) = .lst [] := rfl
  simp only [cmpD, cmpEq, t2, t3, eqOk, h0, h1, Bool.and_self, Bool.or_true, if_true]
  cases l <;> simp [eqD, eqDs]
/-- one of the values that are there, or a new one -/
theorem pick_or {L : Nat} {l : Bg} {k : Kd} {x : Pv} {op : PySem.CmpOp} {B : C} {s : Nat} {σ : St'} (w : W4 M j) (all : ∀ p ∈ l, E4 k p) (hk : k.dp ≤ 3) (hx : hasP k x = true ∧ bdP 70 x ∧ mP x + 20 ≤ 50 * 2 ^ k.dp) (hl : l.length < 100) (hL : M[L]? = some (.lst (l.map encE))) (hj : L ≠ j) (hlt : L < M.length)
    (hσ0 : σ[0]? = some (some (.obj j))) (hσ2 : σ[2]? = some (some (.obj L))) (hσs : σ[s]? = some (some (encP x))) (hn : 3 ≤ n)
    (hB : ∀ r, ∃ b, ∀ M, cmpD op (.int r) (.int 0) M = .ok (.bl b) M) :
    ∃ y M', ev (P.en (run P n)) (.ite (.and_ (.cmp .NotEq (.var 2) (.lst false .nil)) (.cmp op (.call "_law_draw" (.cons (.var 0) (.cons (.k (.int 3)) .nil)) .nil [.inl 0, .inl 1]) (.k (.int 0)))) (.idx (.call "_law_pick" (.cons (.var 0) (.cons (.var 2) .nil)) .nil [.inl 0, .inl 1]) (.k (.int 0))) (.var s)) σ M = .ok (encP y) M' ∧ (hasP k y = true ∧ bdP 70 y ∧ mP y + 20 ≤ 50 * 2 ^ k.dp) ∧ S4 j M M' := by
  obtain ⟨n, rfl⟩ : ∃ m, n = m + 1 := ⟨n - 1, by omega⟩
  have ne := cmp_neO (M := M) (L := L) (l := l) (k := k) (fun p hp => (all p hp).hs) (by omega) hL
  by_cases h0 : l = []
  · subst h0
    simp only [List.isEmpty_nil, Bool.not_true] at ne
    exact ⟨x, M, by simp [hσ2, hσs, LIM, ne], hx, S4.refl w⟩
  · have le : l.isEmpty = false := by simpa using h0
    rw [le, Bool.not_false] at ne
    obtain ⟨r, M1, hr, r0, r1, s1⟩ := run_draw (n := n) (M := M) (m := 3) w (by decide) (by decide)
    obtain ⟨b, hb⟩ := hB r
    cases b with
    | false => exact ⟨x, M1, by simp [hσ0, hσ2, hσs, LIM, ne, en_call, en_dfl, d__law_draw, arrange, pick, hr, hb], hx, s1⟩
    | true =>
      have hL1 : M1[L]? = some (.lst (l.map encE)) := by rw [s1.3 L hj]; exact hL
      obtain ⟨d, M2, e2, hd, s2⟩ := run_pickO (n := n + 1) s1.2 hL1 hj (by simpa using h0) (by simp; omega) (und_encB l) (by omega)
      obtain ⟨p, hp, rfl⟩ := List.mem_map.mp hd
      have i1 : ∀ M, idxD (encE p) (.int 0) M = .ok (encP p.1) M := fun M => by simp [encE]
      have q := all p hp
      exact ⟨p.1, M2, by simp [hσ0, hσ2, hσs, LIM, ne, en_call, en_dfl, d__law_draw, d__law_pick, arrange, pick, hr, hb, e2, i1], ⟨q.hs, q.bd, q.m⟩, s1.trans s2⟩
def bg1 : SL := (.cons (.asg (.var 10) (.call "_law_value" (.cons (.var 0) (.cons (.var 1) .nil)) .nil [.inl 0, .inl 1]))
  (.cons (.asg (.var 10) (.ite (.and_ (.cmp .NotEq (.var 2) (.lst false .nil)) (.cmp .Eq (.call "_law_draw" (.cons (.var 0) (.cons (.k (.int 3)) .nil)) .nil [.inl 0, .inl 1]) (.k (.int 0)))) (.idx (.call "_law_pick" (.cons (.var 0) (.cons (.var 2) .nil)) .nil [.inl 0, .inl 1]) (.k (.int 0))) (.var 10)))
  (.cons (.ex (.met .append (.var 2) (.cons (.tup (.cons (.var 10) (.cons (.call "_law_pick" (.cons (.var 0) (.cons (.tup (.cons (.k (.int 1)) (.cons (.una .USub (.k (.int 1))) (.cons (.k (.int 2)) (.cons (.k (.int 0)) (.cons (.k (.int 3)) (.cons (.una .USub (.k (.int 2))) (.cons (.una .USub (.k (.int 3))) (.cons (.k (.int 4)) .nil))))))))) .nil)) .nil [.inl 0, .inl 1]) .nil))) .nil)))
  .nil)))
def bg2 : SL := (.cons (.asg (.tup (.cons (.var 5) (.cons (.var 6) .nil))) (.tup (.cons (.call "_law_bag" (.cons (.var 1) (.cons (.var 2) .nil)) .nil [.inl 0, .inl 1]) (.cons (.call "_law_value" (.cons (.var 0) (.cons (.var 1) .nil)) .nil [.inl 0, .inl 1]) .nil))))
  (.cons (.asg (.var 6) (.ite (.and_ (.cmp .NotEq (.var 2) (.lst false .nil)) (.cmp .Gt (.call "_law_draw" (.cons (.var 0) (.cons (.k (.int 3)) .nil)) .nil [.inl 0, .inl 1]) (.k (.int 0)))) (.idx (.call "_law_pick" (.cons (.var 0) (.cons (.var 2) .nil)) .nil [.inl 0, .inl 1]) (.k (.int 0))) (.var 6)))
  (.cons (.asg (.var 7) (.blt .sum (.cons (.comp false [("_law_thing", 10), ("_law_times", 11)] (.tup (.cons (.var 10) (.cons (.var 11) .nil))) (.val (.var 5)) (.some (.cmp .Eq (.call "_law_order" (.cons (.var 1) (.cons (.var 10) (.cons (.var 6) .nil))) .nil [.inl 0, .inl 1, .inl 2]) (.k (.int 0)))) (.var 11)) .nil)))
  (.cons (.asg (.var 8) (.blt .tuple (.cons (.comp false [("_law_thing", 10), ("_law_times", 11)] (.tup (.cons (.var 10) (.cons (.var 11) .nil))) (.val (.var 5)) (.some (.cmp .Gt (.var 11) (.k (.int 0)))) (.tup (.cons (.var 10) (.cons (.k (.int 1)) .nil)))) .nil)))
  (.cons (.if_ (.not_ (.call "_law_same" (.cons (.lst false (.cons (.call "bag_of" (.cons (.var 3) (.cons (.blt .tuple (.cons (.var 2) .nil)) .nil)) .nil [.inl 0, .inl 1]) (.cons (.call "bag_of" .nil (.cons (.var 5) (.cons (.var 3) .nil)) [.inl 1, .inl 0]) .nil))) (.cons (.lst false (.cons (.var 5) (.cons (.var 5) .nil))) .nil)) .nil [.inl 0, .inl 1]))
  (.cons (.ret (.k (.bl false)))
  .nil)
  .nil)
  (.cons (.asg (.var 9) (.lst false (.cons (.call "count_of" (.cons (.var 3) (.cons (.var 5) (.cons (.var 6) .nil))) .nil [.inl 0, .inl 1, .inl 2]) (.cons (.call "support_of" (.cons (.var 3) (.cons (.var 5) .nil)) .nil [.inl 0, .inl 1]) (.cons (.call "count_of" .nil (.cons (.var 6) (.cons (.var 5) (.cons (.var 3) .nil))) [.inl 2, .inl 1, .inl 0]) .nil)))))
  (.cons (.ret (.call "_law_same" (.cons (.bin .Add (.var 9) (.lst false (.cons (.call "support_of" .nil (.cons (.var 5) (.cons (.var 3) .nil)) [.inl 1, .inl 0]) .nil))) (.cons (.lst false (.cons (.var 7) (.cons (.var 8) (.cons (.var 7) (.cons (.var 8) .nil))))) .nil)) .nil [.inl 0, .inl 1]))
  .nil)))))))
theorem bg_body : t__law_are_bags.body = (.cons (.asg (.tup (.cons (.var 1) (.cons (.var 2) .nil))) (.tup (.cons (.call "_law_plain" (.cons (.var 0) (.cons (.k (.int 3)) .nil)) .nil [.inl 0, .inl 1]) (.cons (.lst true .nil) .nil))))
  (.cons (.asg (.var 3) (.tup (.cons (.k (.str "bag")) (.cons (.var 1) .nil))))
  (.cons (.for_ (.var 4) (.rng1 (.call "_law_draw" (.cons (.var 0) (.cons (.k (.int 7)) .nil)) .nil [.inl 0, .inl 1])) bg1) bg2))) := rfl
theorem sum_ints {l : List Int} {call : D → List D → Mem → Res D} : bltD call .sum [.lst (l.map D.int)] M = .ok (.int l.sum) M := by
  simp only [bltD, lstOf, Option.bind_some, intsD_map]
theorem run_bags3 (w : W4 M j) (hn : 45 ≤ n) : ∃ M', run P n (.fn "_law_are_bags") [.obj j] M = .ok (.bl true) M' ∧ S4 j M M' := by
  obtain ⟨n, rfl⟩ : ∃ m, n = m + 1 + 1 := ⟨n - 2, by omega⟩
  obtain ⟨k, M1, e1, g, dk, s1⟩ := run_plainK (n + 1) M 3 w (by decide) (by omega)
  have hk : k.dp ≤ 3 := by omega
  have b3 : 2 ^ k.dp ≤ 2 ^ 3 := pow_max (b := 0) hk
  have hj : j < M1.length := by rw [s1.1]; exact w.lt
  have hjL : M1.length ≠ j := by omega
  have val : ∀ M, W4 M j → ∃ p M', run P (n + 1) (.fn "_law_value") [.obj j, enc k] M = .ok (encP p) M' ∧ (hasP k p = true ∧ bdP 70 p ∧ mP p + 20 ≤ 50 * 2 ^ k.dp) ∧ S4 j M M' := fun M w => by
    obtain ⟨v, M', e, d, s⟩ := run_value4 k (n := n + 1) (M := M) (pl_dt g) w (by omega) (by omega)
    obtain ⟨p, hp, rfl⟩ := emb_has g d.hs
    have := d.m1 g
    rw [ms_emb] at this
    exact ⟨p, M', by rw [e, enc_emb], ⟨hp, (bd_emb p).mp d.bd, this⟩, s⟩
  obtain ⟨q, M2, hq, q0, q1, s2⟩ := run_draw (n := n) (M := M1 ++ [Cell.lst []]) (m := 7) (s1.2.app) (by decide) (by decide)
  have o2 : O4 j M1 M2 (.lst []) := (O4.new s1.2).step hj s2
  obtain ⟨σ1, M3, e3, ⟨o4, o10, rfl⟩, l, al, ll, o3⟩ := forW_inv (w := none) (all := rngL 0 q.toNat) (xs := rngL 0 q.toNat) (σ := [some (.obj j), some (enc k), some (.obj M1.length), some (enc (.bag k)), none, none, none, none, none, none, none, none]) (M := M2)
    (Inv := fun i σ M' => (∃ o4 o10, σ = [some (.obj j), some (enc k), some (.obj M1.length), some (enc (.bag k)), o4, none, none, none, none, none, o10, none]) ∧ ∃ l : Bg, (∀ p ∈ l, E4 k p) ∧ l.length = i ∧ O4 j M1 M' (.lst (l.map encE)))
    (g := fun d σ M => asT (P.en (run P (n + 1))) (.var 4) d σ M) (f := fun σ M => exs (P.en (run P (n + 1))) bg1 σ M)
    (fun _ _ _ _ _ => chkW_none)
    (fun i d σ M' hd inv => by
      obtain ⟨⟨o4, o10, rfl⟩, l, al, ll, o3⟩ := inv
      have hi := (rngL_get hd).2
      obtain ⟨x, M4, e4, hx, s4⟩ := val M' o3.wl
      have o4' := o3.step hj s4
      obtain ⟨y, M5, e5, hy, s5⟩ := pick_or (op := .Eq) (B := .k .non) (s := 10) (σ := [some (.obj j), some (enc k), some (.obj M1.length), some (enc (.bag k)), some d, none, none, none, none, none, some (encP x), none]) (n := n + 1) o4'.wl al hk hx (by omega) o4'.cell hjL (by rw [o4'.len]; omega) rfl rfl rfl (by omega) (fun r => ⟨decide (r = 0), fun M => cmp_ii⟩)
      have o5 := o4'.step hj s5
      obtain ⟨z, M6, e6, hz, s6⟩ := run_pick (n := n + 1) (M := M5) (l := [.int 1, .int (-1), .int 2, .int 0, .int 3, .int (-2), .int (-3), .int 4]) s5.2 (by simp) (by decide) (by simp [unds, D.und]) (by omega)
      obtain ⟨t, rfl, ht⟩ : ∃ i : Int, z = .int i ∧ mI i ≤ 5 := by
        simp only [List.mem_cons, List.not_mem_nil, or_false] at hz
        rcases hz with h | h | h | h | h | h | h | h <;> exact ⟨_, h, by decide +kernel⟩
      have o6 := o5.step hj s6
      have ap := app_obj (x := .tup [encP y, .int t]) o6.cell (by simp; omega) (und_encE (y, t))
      refine ⟨[some (.obj j), some (enc k), some (.obj M1.length), some (enc (.bag k)), some d, none, none, none, none, none, o10, none], M', by simp, [some (.obj j), some (enc k), some (.obj M1.length), some (enc (.bag k)), some d, none, none, none, none, none, some (encP y), none], M6.set M1.length (.lst (l.map encE ++ [.tup [encP y, .int t]])), ?_, ⟨_, _, rfl⟩, l ++ [(y, t)], fun p hp => ?_, by simp [ll], ?_⟩
      · simp only [bg1, exs_cons, ex_asg]
        simp [-ev_ite, en_call, en_dfl, d__law_value, arrange, pick, e4, e5]
        simp [recA_obj o5.cell, LIM, en_call, en_dfl, d__law_pick, arrange, pick, e6, ap]
      · rcases List.mem_append.mp hp with hp | hp
        · exact al p hp
        · rw [List.mem_singleton] at hp; subst hp; exact ⟨hy.1, hy.2.1, ht, hy.2.2⟩
      · have := o6.set (d := .lst (l.map encE ++ [.tup [encP y, .int t]])) hj
        rw [List.map_append]; exact this)
    ⟨⟨_, _, rfl⟩, [], fun _ h => (nomatch h), rfl, o2⟩
  have ll : l.length ≤ 6 := by rw [ll, rngL_len]; omega
  have tl : typed k l := fun p hp => (al p hp).hs
  have db := d4_bag al ll
  obtain ⟨bl, hbl⟩ : ∃ bl, bl = norm (dsum [] l) := ⟨_, rfl⟩
  rw [← hbl] at db
  have ib : IsBag k bl := db.hs
  have mb : mB bl + 23 ≤ 5120 := by
    have := db.m2
    have b4 : 2 ^ (Kd.bag k).dp ≤ 2 ^ 4 := pow_max (b := 0) (by simp only [Kd.dp]; omega)
    simp only [ms] at this
    omega
  have lbl := mB_len (a := bl)
  have cl : ∀ c, (M3 ++ [c])[M1.length]? = some (.lst (l.map encE)) := fun c => by rw [List.getElem?_append_left (by rw [o3.len]; omega)]; exact o3.cell
  have lb := run_lbag4 (k := k) (l := l) (x := .obj M1.length) (w := some M1.length) (n := n + 1) (M := M3) g tl (by omega) (by omega) (fun c => by simp only [walkV, cl]) (fun c => chkW_some (cl c))
  rw [← hbl] at lb
  obtain ⟨x, M4, e4, hx, s4⟩ := val M3 o3.wl
  have o4' := o3.step hj s4
  obtain ⟨y, M5, e5, hy, s5⟩ := pick_or (op := .Gt) (B := .k .non) (s := 6) (σ := [some (.obj j), some (enc k), some (.obj M1.length), some (enc (.bag k)), o4, some (.tup (bl.map encE)), some (encP x), none, none, none, o10, none]) (n := n + 1) o4'.wl al hk hx (by omega) o4'.cell hjL (by rw [o4'.len]; omega) rfl rfl rfl (by omega) (fun r => ⟨decide (0 < r), fun M => cmp_gt⟩)
  have o5 := o4'.step hj s5
  -- the law's own count and support
  have lo : ∀ p ∈ bl, ∀ M, run P (n + 1) (.fn "_law_order") [enc k, encP p.1, encP y] M = .ok (.int (sgn p.1 y)) M := fun p hp M => run_lorder g (ib.ty p hp) hy.1 (by omega)
  have i4 : bltD (run P (n + 1)) .tuple [.obj M1.length] M5 = .ok (.tup (l.map encE)) M5 := by simp only [bltD, lrOf, o5.cell]
  have bo1 := fun M => run_bag_of (n := n + 1) (M := M) g tl (by omega) (by omega) (by omega)
  rw [← hbl] at bo1
  have bo2 := fun M => run_bag_of (n := n + 1) (M := M) g ib.ty (by omega) (by omega) (by omega)
  rw [norm_self ib] at bo2
  have co := fun M => run_count_of (n := n + 1) (M := M) (x := y) g ib hy.1 (by show _ ≤ 1000000; omega) (by show _ ≤ 1000000; omega) (by omega) (by omega)
  have su := fun M => run_support_of (n := n + 1) (M := M) g ib (by show _ ≤ 1000000; omega) (by omega) (by omega)
  have Sb : Sw 6000 (.tup (bl.map encE)) := by
    have : Vb 73 5120 (.bag k) (.bag bl) := ⟨ib, bdV_mono (by decide) db.bd, by simp only [ms]; omega⟩
    exact this.sw (by simp only [Kd.dp]; omega) (by decide) (by decide)
  have isb : IsBag k ((bl.filter fun p => decide (0 < p.2)).map fun p => (p.1, (1 : Int))) := by
    refine ⟨fun p hp => ?_, fun p hp => ?_, ?_⟩
    · obtain ⟨q, hq, rfl⟩ := List.mem_map.mp hp; exact ib.ty q (List.mem_filter.mp hq).1
    · obtain ⟨q, hq, rfl⟩ := List.mem_map.mp hp; show (1 : Int) ≠ 0; decide
    · rw [List.pairwise_map]; exact ib.st.filter _
  have ms1 : ∀ l : Bg, mB ((l.filter fun p => decide (0 < p.2)).map fun p => (p.1, (1 : Int))) ≤ mB l := fun l => by
    induction l with
    | nil => simp [mB]
    | cons p r ih =>
      have m1 : mI 1 = 3 := by decide +kernel
      have := mI_pos p.2
      by_cases h : 0 < p.2
      · rw [List.filter_cons_of_pos (by simpa using h)]; simp only [List.map_cons, mB, mE, m1]; omega
      · rw [List.filter_cons_of_neg (by simpa using h)]; simp only [mB]; omega
  have bd1 : bdB 73 ((bl.filter fun p => decide (0 < p.2)).map fun p => (p.1, (1 : Int))) := fun p hp => by
    obtain ⟨q, hq, rfl⟩ := List.mem_map.mp hp
    exact ⟨bdP_mono (by decide) (db.bd q (List.mem_filter.mp hq).1).1, show mI 1 ≤ 73 by decide +kernel⟩
  have Ss : Sw 6000 (.tup ((bl.filter fun p => decide (0 < p.2)).map fun p => encE (p.1, 1))) := by
    have v : Vb 73 5120 (.bag k) (.bag ((bl.filter fun p => decide (0 < p.2)).map fun p => (p.1, (1 : Int)))) := ⟨isb, bd1, by simp only [ms]; have := ms1 bl; omega⟩
    have := v.sw (C := 6000) (by simp only [Kd.dp]; omega) (by decide) (by decide)
    simp only [encV, List.map_map] at this
    exact this
  have Sc : Sw 6000 (.int (cnt bl y)) := by
    have c5 : mI (cnt bl y) ≤ 73 := bd_cnt ib.nodup (fun p hp => ⟨bdP_mono (by decide) (db.bd p hp).1, Nat.le_trans (db.bd p hp).2 (by decide)⟩) (by decide) y
    refine ⟨?_, by simp only [mD]; omega⟩
    unfold mI at c5
    simp only [shw, decide_eq_true_eq]; omega
  have q1' := fun M => run_lsameL (C := 6000) (n := n + 1) (M := M) (sw_two Sb Sb) (by simp) (by omega)
  have q2' := fun M => run_lsameL (C := 6000) (n := n + 1) (M := M) (sw_4 Sc Ss Sc Ss) (by simp) (by omega)
  have add3 := fun (x y z u : D) M => add_listsG (a := [x, y, z]) (b := [u]) (M := M) (by simp)
  simp only [List.cons_append, List.nil_append] at add3
  have tk := o5.take s1.2
  refine ⟨M5.take M1.length, ?_, s1.trans tk⟩
  rw [s1.1]
  refine run_ret l__law_are_bags rfl rfl ?_ und_bl
  have N12 : start' t__law_are_bags.N [.obj j] = [some (.obj j), none, none, none, none, none, none, none, none, none, none, none] := rfl
  have rg : ∀ M, rng1V (.int q) M = .ok (rngL 0 q.toNat, none) M := fun M => rng1_ok (by omega) (by omega)
  simp only [asT_var, enc] at e3
  rw [bg_body, N12]
  simp only [enc] at e5
  simp [LIM, TL.len, en_call, en_dfl, d__law_plain, d__law_draw, arrange, pick, e1, hq, rg, e3]
  simp only [bg2, exs_cons, ex_asg]
  simp [-ev_ite, -ev_comp, -ev_blt, LIM, TL.len, en_call, en_dfl, d__law_bag, d__law_value, arrange, pick, lb, e4, e5]
  have cmp1 : ∀ o6 o7 o8 o9 o10 : Option D, ev (P.en (run P (n + 1))) (.blt .sum (.cons (.comp false [("_law_thing", 10), ("_law_times", 11)] (.tup (.cons (.var 10) (.cons (.var 11) .nil))) (.val (.var 5)) (.some (.cmp .Eq (.call "_law_order" (.cons (.var 1) (.cons (.var 10) (.cons (.var 6) .nil))) .nil [.inl 0, .inl 1, .inl 2]) (.k (.int 0)))) (.var 11)) .nil)) [some (.obj j), some (enc k), some (.obj M1.length), some (.tup [.str "bag", enc k]), o4, some (.tup (bl.map encE)), some (encP y), o7, o8, o9, o10, none] M5 = .ok (.int (cnt bl y)) M5 := by
    intro o6 o7 o8 o9 o10
    simp only [ev_blt, evs_cons, evs_nil, ev_comp, evi_val, ev_var, List.getElem?_cons_succ, List.getElem?_cons_zero, Res.bind_ok, walk_tup, wipe', List.map_cons, List.map_nil, List.set_cons_succ, List.set_cons_zero]
    rw [compL_fm (h := encE) (φ := fun p => D.int p.2) (ψ := fun p => decide (p.1 = y)) (l := bl)]
    · simp only [List.nil_append, fresh_f, Res.bind_ok]
      rw [show ((bl.filter fun p => decide (p.1 = y)).map fun p => D.int p.2) = ((bl.filter fun p => decide (p.1 = y)).map (·.2)).map D.int by simp, sum_ints, sum_cnt]
    · intro p hp
      have lo := lo p hp
      refine ⟨[some (.obj j), some (enc k), some (.obj M1.length), some (.tup [.str "bag", enc k]), o4, some (.tup (bl.map encE)), some (encP y), o7, o8, o9, some (encP p.1), some (.int p.2)], by simp [encE, TL.len], ?_, by simp⟩
      have : decide (sgn p.1 y = 0) = decide (p.1 = y) := decide_eq_decide.mpr sgn_eq
      simp [en_call, en_dfl, d__law_order, arrange, pick, lo, this]
    · simp only [List.length_nil, Nat.zero_add]; show _ ≤ 1000000; omega
  have cmp2 : ∀ o6 o7 o8 o9 o10 : Option D, ev (P.en (run P (n + 1))) (.blt .tuple (.cons (.comp false [("_law_thing", 10), ("_law_times", 11)] (.tup (.cons (.var 10) (.cons (.var 11) .nil))) (.val (.var 5)) (.some (.cmp .Gt (.var 11) (.k (.int 0)))) (.tup (.cons (.var 10) (.cons (.k (.int 1)) .nil)))) .nil)) [some (.obj j), some (enc k), some (.obj M1.length), some (.tup [.str "bag", enc k]), o4, some (.tup (bl.map encE)), some (encP y), o7, o8, o9, o10, none] M5 = .ok (.tup ((bl.filter fun p => decide (0 < p.2)).map fun p => encE (p.1, 1))) M5 := by
    intro o6 o7 o8 o9 o10
    simp only [ev_blt, evs_cons, evs_nil, ev_comp, evi_val, ev_var, List.getElem?_cons_succ, List.getElem?_cons_zero, Res.bind_ok, walk_tup, wipe', List.map_cons, List.map_nil, List.set_cons_succ, List.set_cons_zero]
    rw [compL_fm (h := encE) (φ := fun p => encE (p.1, 1)) (ψ := fun p => decide (0 < p.2)) (l := bl)]
    · simp only [List.nil_append, fresh_f, Res.bind_ok, bltD, lrOf] <;> rfl
    · intro p hp
      exact ⟨[some (.obj j), some (enc k), some (.obj M1.length), some (.tup [.str "bag", enc k]), o4, some (.tup (bl.map encE)), some (encP y), o7, o8, o9, some (encP p.1), some (.int p.2)], by simp [encE, TL.len], by simp, by simp [encE, LIM]⟩
    · simp only [List.length_nil, Nat.zero_add]; show _ ≤ 1000000; omega
  simp only [enc] at bo1 bo2 co su
  simp only [cmp1 none, cmp2 none, Res.bind_ok, List.set_cons_succ, List.set_cons_zero, seqF_next, asT_var]
  simp [LIM, en_call, en_dfl, d_bag_of, d_count_of, d_support_of, d__law_same, arrange, pick, i4, bo1, bo2, co, su, q1', q2', add3]
end
def rr1 : SL := (.cons (.if_ (.or_ (.not_ (.call "_law_are_values" (.cons (.var 0) .nil) .nil [.inl 0])) (.not_ (.call "_law_are_ordered" (.cons (.var 0) .nil) .nil [.inl 0])))
  (.cons (.ret (.k (.bl false)))
  .nil)
  .nil)
  (.cons (.if_ (.or_ (.not_ (.call "_law_are_sums" (.cons (.var 0) .nil) .nil [.inl 0])) (.not_ (.call "_law_are_bags" (.cons (.var 0) .nil) .nil [.inl 0])))
  (.cons (.ret (.k (.bl false)))
  .nil)
  .nil)
  .nil))
theorem rr_body : t__law_right.body = (.cons (.for_ (.var 1) (.rng1 (.k (.int 3))) rr1)
  (.cons (.ret (.k (.bl true)))
  .nil)) := rfl
theorem run_right {j n : Nat} {M : Mem} (w : W4 M j) (hn : 50 ≤ n) : ∃ M', run P n (.fn "_law_right") [.obj j] M = .ok (.bl true) M' ∧ S4 j M M' := by
  obtain ⟨n, rfl⟩ : ∃ m, n = m + 1 := ⟨n - 1, by omega⟩
  obtain ⟨σ1, M1, e1, s1, o1, rfl⟩ := forW_inv (w := none) (all := rngL 0 3) (xs := rngL 0 3) (σ := [some (.obj j), none]) (M := M)
    (Inv := fun i σ M' => S4 j M M' ∧ ∃ o1, σ = [some (.obj j), o1])
    (g := fun d σ M => asT (P.en (run P n)) (.var 1) d σ M) (f := fun σ M => exs (P.en (run P n)) rr1 σ M)
    (fun _ _ _ _ _ => chkW_none)
    (fun i d σ M' hd inv => by
      obtain ⟨s, o1, rfl⟩ := inv
      obtain ⟨M2, e2, s2⟩ := run_values3 (n := n) s.2 (by omega)
      obtain ⟨M3, e3, s3⟩ := run_ordered3 (n := n) s2.2 (by omega)
      obtain ⟨M4, e4, s4⟩ := run_sums3 (n := n) s3.2 (by omega)
      obtain ⟨M5, e5, s5⟩ := run_bags3 (n := n) s4.2 (by omega)
      exact ⟨[some (.obj j), some d], M', by simp, [some (.obj j), some d], M5, by simp [rr1, en_call, en_dfl, d__law_are_values, d__law_are_ordered, d__law_are_sums, d__law_are_bags, arrange, pick, e2, e3, e4, e5], ((s.trans s2).trans s3).trans (s4.trans s5), _, rfl⟩)
    ⟨S4.refl w, _, rfl⟩
  refine ⟨M1, ?_, s1⟩
  rw [run_step l__law_right rfl, rr_body]
  have N2 : start' t__law_right.N [.obj j] = [some (.obj j), none] := rfl
  have md : t__law_right.mode = .drop := rfl
  have rg : ∀ M, rng1V (.int 3) M = .ok (rngL 0 3, none) M := fun M => rng1_ok (by decide) (by decide)
  simp only [asT_var] at e1
  rw [N2, md, ← s1.1]
  simp [rg, e1]
end Cw

set_option Elab.async false
set_option linter.all false
set_option maxRecDepth 100000
set_option maxHeartbeats 1000000
-- from: k01 k02 k03 k04 k05 k06 k07 k08 k09 k10 k11 k61 k62 k63
namespace Cw
open Ev
open PySem (Str PyData)
theorem turn_ok {ns : List Int} {n : Nat} (hn : 50 ≤ n + 1) (t : Nat) (M : Mem) : ∃ M1 M2, run P (n + 1) (.fn "_law_well") [.rol (ns.map .int), .int t] M = .ok (.obj M.length) M1 ∧ run P (n + 1) (.fn "_law_right") [.obj M.length] M1 = .ok (.bl true) M2 := by
  obtain ⟨a, b, c, e, h⟩ := run_well (ns := ns) (t := t) (n := n) (M := M)
  obtain ⟨M2, h2, _⟩ := run_right (n := n + 1) (wl_new (M := M) (a := a) (b := b) (c := c) (e := e)) hn
  exact ⟨_, M2, h, h2⟩
theorem runs : ∀ ns : List Int, ns.length ≤ 63 → ∃ k M, L2.Room k PySem.callerA ∧ Ev.run P k (.fn "law") [.rol (ns.map .int)] [] = .ok (.bl true) M := by
  intro ns _
  obtain ⟨A0, B0, e0, f0⟩ := turn_ok (ns := ns) (n := 148) (by decide) 0 []
  obtain ⟨A1, B1, e1, f1⟩ := turn_ok (ns := ns) (n := 148) (by decide) 1 B0
  obtain ⟨A2, B2, e2, f2⟩ := turn_ok (ns := ns) (n := 148) (by decide) 2 B1
  simp only [Int.natCast_zero, Int.natCast_one, List.length_nil] at e0 f0 e1 f1 e2 f2
  have e2 : run P (148 + 1) (.fn "_law_well") [.rol (ns.map .int), .int 2] B1 = .ok (.obj B1.length) A2 := e2
  have r2 : rngL 0 2 = [.int 0, .int 1] := rfl
  have r3 : rngL 0 3 = [.int 0, .int 1, .int 2] := rfl
  have hm : (if (if (3 : Int) < (ns.length : Int) then (3 : Int) else (ns.length : Int)) > 2 then (if (3 : Int) < (ns.length : Int) then (3 : Int) else (ns.length : Int)) else (2 : Int)) = 2 ∨ (if (if (3 : Int) < (ns.length : Int) then (3 : Int) else (ns.length : Int)) > 2 then (if (3 : Int) < (ns.length : Int) then (3 : Int) else (ns.length : Int)) else (2 : Int)) = 3 := by
    split <;> split <;> omega
  have go : ∃ M, finish t_law.mode ([] : Mem).length (exs (P.en (run P 149)) t_law.body (start' t_law.N [.rol (ns.map .int)]) []) = .ok (.bl true) M := by
    rcases hm with hm | hm
    · refine ⟨B1.take 0, ?_⟩
      have rg : ∀ M, rng1V (.int 2) M = .ok (rngL 0 2, none) M := fun M => rng1_ok (by decide) (by decide)
      simp [t_law, start', wipe', max_ii, min_ii, hm, rg, r2, compL_cons, en_call, en_dfl, d__law_well, d__law_right, arrange, pick, LIM, e0, f0, e1, f1]
      rfl
    · refine ⟨B2.take 0, ?_⟩
      have rg : ∀ M, rng1V (.int 3) M = .ok (rngL 0 3, none) M := fun M => rng1_ok (by decide) (by decide)
      simp [t_law, start', wipe', max_ii, min_ii, hm, rg, r3, compL_cons, en_call, en_dfl, d__law_well, d__law_right, arrange, pick, LIM, e0, f0, e1, f1, e2, f2]
      rfl
  obtain ⟨M, hM⟩ := go
  exact ⟨150, M, ⟨rfl, by decide, by decide⟩, by rw [run_step l_law rfl]; exact hM⟩
end Cw

open PySem PySem.W PyProof.Rows
set_option Elab.async false
set_option maxRecDepth 100000
set_option maxHeartbeats 0 in
theorem PySem.Challenge.cw_changewise_k03_whole_values_order_sums_a_holds : PySem.Challenge.rw_changewise_k03_whole_values_order_sums_a.Holds := by
  w_on; o_law; k_head; (case hw => w_witness2)
  k_fill
  refine Ev.law_walk (l := PySem.Challenge.rw_changewise_k03_whole_values_order_sums_a) (n := 63) (P := Cw.P) (src := Cw.src) (con := Cw.con) (f := Cw.t_law) (by kernel_rfl) (by decide) (by kernel_rfl) (by kernel_rfl) (fun w h Y => PySem.W.kIn_of Y) (fun w => ?says) Cw.allf rfl (by decide +kernel) (by decide +kernel) (fun w => ?con) (fun w => ?hash) (by rfl) rfl rfl Cw.runs
  case says =>
    show He.obsD (Ev.faOf Cw.P) Cw.src _ = He.valD Cw.src
    kernel_rfl
  case con => kernel_rfl
  case hash => kernel_rfl

