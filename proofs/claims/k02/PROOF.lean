import PyProof.Rows.All
import KE.SortKeyHeap
import KE.SortData
import KE.DataCmp
import HandS.ForMost
import HandS.Wide
import HandS.SortOrd
import HandS.SetKeys
import KE.KSortTupG
import HandS.Style
import PyProof.ReprLen
import HandS.IsInst
import HandS.TupAny
import PyProof.ReprRoads
import HandS.EndBits
import HandS.More
import PyProof.ReprText
import PyProof.Rows.ReprOcc
import PySem.Challenge.RW_onlywith_k02_ranks_of_values_and_rows
set_option Elab.async false
set_option linter.all false
set_option maxRecDepth 100000
/-! < of tuples whose items can be compared as far as they are compared: just at the first place where they differ -/
namespace PySem.DW
open PySem PySem.SeqAt PySem.W PyProof.Rows

open MeetsSeq MeetsSeq2 MeetsSeq3 SeqRoads2

/-- all places below i hold equal items -/
def Upto (e : Nat → Bool) (i : Nat) : Prop := ∀ k, k < i → e k = true
theorem tup_lt_first (l b : Addr) (us vs : Array Value) (n n2 : Nat) (dd dd2 : Option Addr) (sl sl2 : Array (Option Value)) (e r : Nat → Bool) :
    Meets (Builtin.«tuple.__lt__» ⟨[.ref l, .ref b], []⟩)
      (fun A R s => s.heap.get? l = some { cls := .type "tuple", dict := dd, data := .seq us n, slots := sl } ∧ s.heap.get? b = some { cls := .type "tuple", dict := dd2, data := .seq vs n2, slots := sl2 } ∧
        (∀ j (h1 : j < us.size) (h2 : j < vs.size), EqAt A.in1 s us[j] vs[j] (e j)) ∧ (∀ j (h1 : j < us.size) (h2 : j < vs.size), Upto e j → e j = false → RcLt A.in1 s us[j] vs[j] (r j)) ∧
        R (.ok (.ret (.bool (firstLt e r (decide (us.size < vs.size)) (List.range (min us.size vs.size)))))) s) :=
  .of_wp fun prog w A R st hyp => by
    obtain ⟨heap, gens, dr, tk, os⟩ := st
    obtain ⟨hl, hb, he, hr, fin⟩ := hyp
    have f2 := AutoSeq1.sub_tuple_tuple
    have zl : (us.toList.zip vs.toList).length = min us.size vs.size := by simp
    wp_walk using AutoSeq1.wpAny_loadPart' hl, AutoSeq1.wpAny_loadPart' hb, wpAny_forIn_list _ (fun rest b s' => b.1 = none ∧ s' = ⟨heap, gens, dr, tk, os⟩ ∧ ∃ i, Upto e i ∧ rest = (us.toList.zip vs.toList).drop i ∧
      R (.ok (.ret (.bool (firstLt e r (decide (us.size < vs.size)) ((List.range (min us.size vs.size)).drop i))))) ⟨heap, gens, dr, tk, os⟩) _
    case turn =>
      rintro ⟨y, x⟩ rest b s' ⟨_, rfl, i, up, hz, hR⟩
      have il : i < (us.toList.zip vs.toList).length := by
        by_cases q : i < (us.toList.zip vs.toList).length
        · exact q
        · rw [List.drop_of_length_le (Nat.le_of_not_lt q)] at hz; cases hz
      have im : i < min us.size vs.size := zl ▸ il
      have i1 : i < us.size := by omega
      have i2 : i < vs.size := by omega
      rw [List.drop_eq_getElem_cons il] at hz
      injection hz with hyx hrest
      obtain ⟨ey, ex⟩ : y = us[i] ∧ x = vs[i] := by
        have a1 := congrArg Prod.fst hyx
        have a2 := congrArg Prod.snd hyx
        exact ⟨by simpa using a1, by simpa using a2⟩
      subst ey ex
      have dr' : (List.range (min us.size vs.size)).drop i = i :: (List.range (min us.size vs.size)).drop (i + 1) := by simp [List.drop_eq_getElem_cons, im]
      rw [dr'] at hR
      refine wpAny_bind (he i i1 i2 prog w _ _ ?_)
      cases ei : e i with
      | true =>
        rw [firstLt_yes ei] at hR
        wp_walk
        refine ⟨rfl, rfl, i + 1, fun k hk => ?_, hrest, hR⟩
        rcases Nat.lt_succ_iff_lt_or_eq.mp hk with q | q
        · exact up k q
        · rw [q]; exact ei
      | false =>
        rw [firstLt_no ei] at hR
        have hr' := hr i i1 i2 up ei prog w
        generalize PySem.richCompare CmpOp.Lt us[i] vs[i] = M at hr' ⊢
        wp_walk
        refine hr' _ _ ?_
        wp_walk
        exact ⟨_, rfl, hR⟩
    case fin =>
      rintro ⟨b1, b2⟩ s' ⟨b0, rfl, i, _, hz, hR⟩
      simp only at b0
      subst b0
      have ige : min us.size vs.size ≤ i := by
        by_cases q : i < (us.toList.zip vs.toList).length
        · rw [List.drop_eq_getElem_cons q] at hz; cases hz
        · exact zl ▸ Nat.le_of_not_lt q
      rw [List.drop_of_length_le (by simpa using ige)] at hR
      wp_walk
      exact ⟨_, rfl, by simpa [Builtin.Tuple.tupleCompareSizes, firstLt] using hR⟩
    case h =>
      exact ⟨rfl, rfl, 0, fun k hk => absurd hk (Nat.not_lt_zero k), rfl, by simpa using fin⟩
theorem rc_tuples {A : Around} {s : Shared} {l b : Addr} {us vs : Array Value} {e r : Nat → Bool} (hl : s.heap.IsTuple l us) (hb : s.heap.IsTuple b vs) (hu : A.units < cLine)
    (he : ∀ j (h1 : j < us.size) (h2 : j < vs.size), EqAt A.in1 s us[j] vs[j] (e j)) (hr : ∀ j (h1 : j < us.size) (h2 : j < vs.size), Upto e j → e j = false → RcLt A.in1 s us[j] vs[j] (r j)) :
    RcLt A s (.ref l) (.ref b) (firstLt e r (decide (us.size < vs.size)) (List.range (min us.size vs.size))) := fun prog w E Q q => by
  obtain ⟨⟨c1, d1, x1, s1⟩, o1, hc1, n1, hd1⟩ := id hl
  obtain ⟨⟨c2, d2, x2, s2⟩, o2, hc2, n2, hd2⟩ := id hb
  simp only at hc1 hd1 hc2 hd2
  subst hc1 hd1 hc2 hd2
  refine richCompare_meets_room (op := .Lt) ⟨_, o1, rfl⟩ ⟨_, o2, rfl⟩ F.slot_tuple_lt F.entry_tuple_lt (F.args_tuple_lt_2 _ _) (tup_lt_first l b us vs n1 n2 d1 d2 s1 s2 e r) ⟨o1, o2, he, hr, ?_⟩ hu
  exact ⟨(fun x => nomatch x), q⟩

mutual
/-- the two can be compared as far as need be -/
def cmpable : PyData → PyData → Bool
  | .tuple xs, .tuple ys => cmpables xs ys
  | .none, .none => true
  | .bool _, .bool _ => true
  | .int _, .int _ => true
  | .str _, .str _ => true
  | .list xs, .list ys => alikeAll xs ys
  | _, _ => false
def cmpables : List PyData → List PyData → Bool
  | x :: xs, y :: ys => if PyData.eqv x y = true then cmpables xs ys else cmpable x y
  | _, _ => true
end

mutual
def wLt : PyData → PyData → Bool
  | .tuple xs, .tuple ys => wLts xs ys
  | x, y => dataLt x y
def wLts : List PyData → List PyData → Bool
  | [], [] => false
  | [], _ :: _ => true
  | _ :: _, [] => false
  | x :: xs, y :: ys => if PyData.eqv x y = true then wLts xs ys else wLt x y
end
theorem cmp_ne {x y : PyData} (h : cmpable x y = true) (hn : PyData.eqv x y = false) : x ≠ .none := by
  rintro rfl
  cases y <;> simp [cmpable, PyData.eqv] at h hn
theorem first_w : ∀ (xs ys : List PyData), firstLt (pairEq xs ys) (fun j => wLt (xs.getD j .none) (ys.getD j .none)) (decide (xs.length < ys.length)) (List.range (min xs.length ys.length)) = wLts xs ys
  | [], [] => by simp [firstLt, wLts]
  | [], _ :: _ => by simp [firstLt, wLts]
  | _ :: _, [] => by simp [firstLt, wLts]
  | x :: xs, y :: ys => by
    have ih := first_w xs ys
    have sh : ∀ (l : List Nat) (fin : Bool), firstLt (pairEq (x :: xs) (y :: ys)) (fun j => wLt ((x :: xs).getD j .none) ((y :: ys).getD j .none)) fin (l.map (· + 1)) = firstLt (pairEq xs ys) (fun j => wLt (xs.getD j .none) (ys.getD j .none)) fin l := by
      intro l fin
      induction l with
      | nil => rfl
      | cons j t ih2 =>
        rw [List.map_cons, firstLt, firstLt, ih2]
        rfl
    have em : min (x :: xs).length (y :: ys).length = min xs.length ys.length + 1 := by simp only [List.length_cons]; omega
    rw [em, List.range_succ_eq_map, firstLt]
    have e0 : pairEq (x :: xs) (y :: ys) 0 = PyData.eqv x y := rfl
    rw [e0, wLts]
    by_cases q : PyData.eqv x y = true
    · rw [if_pos q, if_pos q, ← ih]
      have ed : decide ((x :: xs).length < (y :: ys).length) = decide (xs.length < ys.length) := by simp
      rw [ed]
      exact sh _ _
    · rw [if_neg q, if_neg q]
      rfl
theorem cmps_at : ∀ (xs ys : List PyData) (j : Nat), cmpables xs ys = true → j < xs.length → j < ys.length → Upto (pairEq xs ys) j → pairEq xs ys j = false → cmpable (xs.getD j .none) (ys.getD j .none) = true
  | [], _, _, _, h, _, _, _ => absurd h (Nat.not_lt_zero _)
  | _ :: _, [], _, _, _, h, _, _ => absurd h (Nat.not_lt_zero _)
  | x :: xs, y :: ys, 0, h, _, _, _, hn => by
    have hn' : PyData.eqv x y = false := hn
    rw [cmpables, if_neg (by rw [hn']; exact Bool.false_ne_true)] at h
    exact h
  | x :: xs, y :: ys, j + 1, h, h1, h2, up, hn => by
    have h0 : PyData.eqv x y = true := up 0 (Nat.succ_pos j)
    rw [cmpables, if_pos h0] at h
    exact cmps_at xs ys j h (Nat.lt_of_succ_lt_succ h1) (Nat.lt_of_succ_lt_succ h2) (fun k hk => up (k + 1) (Nat.succ_lt_succ hk)) hn
theorem item_at : ∀ {h : Heap} {vs : List Value} {xs : List PyData} {as : List Addr}, ReadsAll h vs xs as → ∀ (j : Nat) (h1 : j < vs.length), ∃ bs, Reads h vs[j] (xs.getD j .none) bs ∧ (xs.getD j .none).depth ≤ PyData.depthAll xs ∧ xs.getD j .none ∈ xs
  | _, _, _, _, .nil, j, h1 => absurd h1 (Nat.not_lt_zero j)
  | _, _, _, _, .cons (d := d) (ds := ds) r rs, 0, _ => ⟨_, r, by simp only [PyData.depthAll]; exact Nat.le_max_left _ _, List.mem_cons_self ..⟩
  | _, _, _, _, .cons (d := d) (ds := ds) r rs, j + 1, h1 => by
    obtain ⟨bs, q1, q2, q3⟩ := item_at rs j (Nat.lt_of_succ_lt_succ h1)
    exact ⟨bs, q1, by simp only [PyData.depthAll]; exact Nat.le_trans q2 (Nat.le_max_right _ _), List.mem_cons_of_mem _ q3⟩
theorem lays {xs : List PyData} (h : PyData.canLayAll0 xs = true) {x : PyData} (hx : x ∈ xs) : x.canLay0 = true := by
  induction xs with
  | nil => cases hx
  | cons y ys ih =>
    simp only [PyData.canLayAll0, Bool.and_eq_true] at h
    rcases List.mem_cons.mp hx with rfl | q
    · exact h.1
    · exact ih h.2 q
/-- a < b -/
theorem rc_w : ∀ (n : Nat) (da db : PyData) (A : Around) (s : Shared) (a b : Value) (as bs : List Addr), da.depth ≤ n → Reads s.heap a da as → Reads s.heap b db bs → da.canLay0 = true → db.canLay0 = true → cmpable da db = true → da ≠ .none → A.units + n < cLine → RcLt A s a b (wLt da db) := by
  intro n
  induction n with
  | zero =>
    intro da db A s a b as bs hd ra rb la lb hc hn hu
    cases da with
    | tuple xs => simp [PyData.depth] at hd
    | list xs => simp [PyData.depth] at hd
    | dict _ => simp [PyData.canLay0] at la
    | none => exact absurd rfl hn
    | bool x => cases db <;> first | (simp [cmpable] at hc; done) | exact rcLt_alike _ _ A s a b as bs ra rb (by simp [alike]) (by intro z; cases z) (by simp [PyData.depth]; omega)
    | int x => cases db <;> first | (simp [cmpable] at hc; done) | exact rcLt_alike _ _ A s a b as bs ra rb (by simp [alike]) (by intro z; cases z) (by simp [PyData.depth]; omega)
    | str x => cases db <;> first | (simp [cmpable] at hc; done) | exact rcLt_alike _ _ A s a b as bs ra rb (by simp [alike]) (by intro z; cases z) (by simp [PyData.depth]; omega)
  | succ n ih =>
    intro da db A s a b as bs hd ra rb la lb hc hn hu
    cases da with
    | dict _ => simp [PyData.canLay0] at la
    | none => exact absurd rfl hn
    | bool x => cases db <;> first | (simp [cmpable] at hc; done) | exact rcLt_alike _ _ A s a b as bs ra rb (by simp [alike]) (by intro z; cases z) (by simp [PyData.depth]; omega)
    | int x => cases db <;> first | (simp [cmpable] at hc; done) | exact rcLt_alike _ _ A s a b as bs ra rb (by simp [alike]) (by intro z; cases z) (by simp [PyData.depth]; omega)
    | str x => cases db <;> first | (simp [cmpable] at hc; done) | exact rcLt_alike _ _ A s a b as bs ra rb (by simp [alike]) (by intro z; cases z) (by simp [PyData.depth]; omega)
    | list xs =>
      cases db with
      | list ys =>
        have : wLt (.list xs) (.list ys) = dataLt (.list xs) (.list ys) := by simp only [wLt]
        rw [this]
        exact rcLt_alike _ _ A s a b as bs ra rb (by simpa [alike, cmpable] using hc) (by intro z; cases z) (by have := Nat.min_le_left (PyData.list xs).depth (PyData.list ys).depth; omega)
      | _ => simp [cmpable] at hc
    | tuple xs =>
      cases db with
      | tuple ys =>
        simp only [cmpable] at hc
        simp only [PyData.canLay0] at la lb
        cases ra with
        | @tuple l o us m _ as1 h1 h2 h3 h4 =>
          cases rb with
          | @tuple l' o' us' m' _ bs1 k1 k2 k3 k4 =>
            have n1 : us.size = xs.length := by simpa using ReadsAll.length _ _ _ h4
            have n2 : us'.size = ys.length := by simpa using ReadsAll.length _ _ _ k4
            have hdx : PyData.depthAll xs ≤ n := by simp only [PyData.depth] at hd; omega
            rw [wLt, ← first_w xs ys, ← n1, ← n2]
            refine rc_tuples ⟨_, h1, h2, _, h3⟩ ⟨_, k1, k2, _, k3⟩ (by omega) (fun j j1 j2 => ?_) fun j j1 j2 up hj => ?_
            · obtain ⟨bs2, q1, q2, q3⟩ := item_at h4 j (by simpa using j1)
              obtain ⟨bs3, p1, p2, p3⟩ := item_at k4 j (by simpa using j2)
              have := eqAt_reads _ _ A.in1 s _ _ _ _ q1 p1 (lays la q3) (lays lb p3) (by have := Nat.min_le_left (xs.getD j .none).depth (ys.getD j .none).depth; show A.units + 1 + _ < _; omega)
              simpa [pairEq] using this
            · obtain ⟨bs2, q1, q2, q3⟩ := item_at h4 j (by simpa using j1)
              obtain ⟨bs3, p1, p2, p3⟩ := item_at k4 j (by simpa using j2)
              have hc' := cmps_at xs ys j hc (by omega) (by omega) up hj
              have := ih _ _ A.in1 s _ _ _ _ (Nat.le_trans q2 hdx) q1 p1 (lays la q3) (lays lb p3) hc' (cmp_ne hc' hj) (by show A.units + 1 + n < _; omega)
              simpa using this
      | _ => simp [cmpable] at hc
end PySem.DW

/-! the order of tuples by the first place that differs: its row of signs, sorting -/
namespace PySem.DW
open PySem PySem.SeqAt PySem.W PySem.Calls PyProof.Rows

mutual
theorem sign_eq : ∀ (x y : PyData), x.canLay0 = true → PyData.eqv x y = true → keyToks x = keyToks y
  | .none, y, _, e => by cases y <;> first | rfl | simp [PyData.eqv] at e
  | .bool a, y, _, e => by cases y <;> simp [PyData.eqv] at e <;> simp [keyToks, ← e]
  | .int a, y, _, e => by cases y <;> simp [PyData.eqv] at e <;> simp [keyToks, e]
  | .str a, y, _, e => by cases y <;> simp [PyData.eqv] at e <;> simp [keyToks, e]
  | .list xs, y, l, e => by
    cases y with
    | list ys => simp only [keyToks]; exact signs_eq xs ys (by simpa [PyData.canLay0] using l) (by simpa [PyData.eqv] using e)
    | _ => simp [PyData.eqv] at e
  | .tuple xs, y, l, e => by
    cases y with
    | tuple ys => simp only [keyToks]; exact signs_eq xs ys (by simpa [PyData.canLay0] using l) (by simpa [PyData.eqv] using e)
    | _ => simp [PyData.eqv] at e
  | .dict _, _, l, _ => by simp [PyData.canLay0] at l
theorem signs_eq : ∀ (xs ys : List PyData), PyData.canLayAll0 xs = true → PyData.eqvAll xs ys = true → keyToksAll xs = keyToksAll ys
  | [], [], _, _ => rfl
  | [], _ :: _, _, e => by simp [PyData.eqvAll] at e
  | _ :: _, [], _, e => by simp [PyData.eqvAll] at e
  | x :: xs, y :: ys, l, e => by
    rw [eqv_all_cons, Bool.and_eq_true] at e
    simp only [PyData.canLayAll0, Bool.and_eq_true] at l
    rw [toks_all_cons, toks_all_cons, sign_eq x y l.1 e.1, signs_eq xs ys l.2 e.2]
end
theorem cmp_flat {x y : PyData} (h : cmpable x y = true) (hx : ∀ xs, x ≠ .tuple xs) : alike x y = true := by
  cases x <;> cases y <;> first | (simp [cmpable] at h; done) | (simp [alike]; done) | exact absurd rfl (hx _) | simpa [alike, cmpable] using h
mutual
theorem sign_ne : ∀ (x y : PyData), x.canLay0 = true → cmpable x y = true → PyData.eqv x y = false → ∀ l m, PyProof.Rows.lexLt itemOrd (keyToks x ++ l) (keyToks y ++ m) = dataLt x y
  | .tuple xs, y, lx, h, e, l, m => by
    cases y with
    | tuple ys =>
      rw [dataLt_tuple]
      simp only [keyToks]
      exact signs_ne xs ys (by simpa [PyData.canLay0] using lx) (by simpa [cmpable] using h) (by simpa [PyData.eqv] using e) l m
    | _ => simp [cmpable] at h
  | .none, y, lx, h, e, l, m => (toks_eqv .none y (cmp_flat h (by intro _ q; cases q))).2 e l m
  | .bool a, y, lx, h, e, l, m => (toks_eqv (.bool a) y (cmp_flat h (by intro _ q; cases q))).2 e l m
  | .int a, y, lx, h, e, l, m => (toks_eqv (.int a) y (cmp_flat h (by intro _ q; cases q))).2 e l m
  | .str a, y, lx, h, e, l, m => (toks_eqv (.str a) y (cmp_flat h (by intro _ q; cases q))).2 e l m
  | .list a, y, lx, h, e, l, m => (toks_eqv (.list a) y (cmp_flat h (by intro _ q; cases q))).2 e l m
  | .dict _, _, lx, _, _, _, _ => by simp [PyData.canLay0] at lx
theorem signs_ne : ∀ (xs ys : List PyData), PyData.canLayAll0 xs = true → cmpables xs ys = true → PyData.eqvAll xs ys = false → ∀ l m, PyProof.Rows.lexLt itemOrd (keyToksAll xs ++ l) (keyToksAll ys ++ m) = PyProof.Rows.lexLt itemOrd (keyToksAll xs) (keyToksAll ys)
  | [], [], _, _, e, _, _ => absurd e (by simp [PyData.eqvAll])
  | [], y :: ys, _, _, _, l, m => by
    simp only [keyToksAll, List.cons_append, List.nil_append]
    exact (lex_atom (by simp) _ _).trans (lex_atom (by simp) _ _).symm
  | x :: xs, [], _, _, _, l, m => by
    simp only [keyToksAll, List.cons_append, List.nil_append]
    exact (lex_atom (by simp) _ _).trans (lex_atom (by simp) _ _).symm
  | x :: xs, y :: ys, lx, h, e, l, m => by
    simp only [PyData.canLayAll0, Bool.and_eq_true] at lx
    rw [cmpables] at h
    rw [eqv_all_cons] at e
    rw [toks_all_cons, toks_all_cons]
    simp only [List.cons_append, List.append_assoc]
    refine (lex_self (O := itemOrd) _ _ _).trans (Eq.trans ?_ (lex_self (O := itemOrd) _ _ _).symm)
    by_cases q : PyData.eqv x y = true
    · rw [if_pos q] at h
      rw [q, Bool.true_and] at e
      rw [sign_eq x y lx.1 q]
      exact (lex_pre _ _ _).trans ((signs_ne xs ys lx.2 h e l m).trans (lex_pre _ _ _).symm)
    · rw [if_neg q] at h
      have q' := Bool.eq_false_iff.mpr q
      exact (sign_ne x y lx.1 h q' _ _).trans (sign_ne x y lx.1 h q' _ _).symm
end
mutual
theorem order_w : ∀ (x y : PyData), x.canLay0 = true → cmpable x y = true → dataLt x y = wLt x y
  | .tuple xs, y, lx, h => by
    cases y with
    | tuple ys =>
      rw [dataLt_tuple, wLt]
      exact orders_w xs ys (by simpa [PyData.canLay0] using lx) (by simpa [cmpable] using h)
    | _ => simp [cmpable] at h
  | .none, y, _, _ => by simp only [wLt]
  | .bool _, y, _, _ => by simp only [wLt]
  | .int _, y, _, _ => by simp only [wLt]
  | .str _, y, _, _ => by simp only [wLt]
  | .list _, y, _, _ => by simp only [wLt]
  | .dict _, y, _, _ => by simp only [wLt]
theorem orders_w : ∀ (xs ys : List PyData), PyData.canLayAll0 xs = true → cmpables xs ys = true → PyProof.Rows.lexLt itemOrd (keyToksAll xs) (keyToksAll ys) = wLts xs ys
  | [], [], _, _ => by simp only [wLts]; exact lex_irrefl _
  | [], y :: ys, _, _ => by
    rw [toks_all_cons]
    simp only [keyToksAll]
    rw [lex_diff (O := itemOrd) (by simp)]
    simp [wLts, itemLt]
  | x :: xs, [], _, _ => by
    rw [toks_all_cons]
    simp only [keyToksAll]
    rw [lex_diff (O := itemOrd) (by simp)]
    simp [wLts, itemLt]
  | x :: xs, y :: ys, lx, h => by
    simp only [PyData.canLayAll0, Bool.and_eq_true] at lx
    rw [cmpables] at h
    rw [toks_all_cons, toks_all_cons, wLts]
    refine (lex_self (O := itemOrd) _ _ _).trans ?_
    by_cases q : PyData.eqv x y = true
    · rw [if_pos q] at h ⊢
      rw [sign_eq x y lx.1 q]
      exact (lex_pre _ _ _).trans (orders_w xs ys lx.2 h)
    · rw [if_neg q] at h ⊢
      exact (sign_ne x y lx.1 h (Bool.eq_false_iff.mpr q) _ _).trans (order_w x y lx.1 h)
end
theorem cmp_type {x y : PyData} (h : cmpable x y = true) : dataType x = dataType y := by
  cases x <;> cases y <;> first | rfl | exact absurd h (by simp [cmpable])

/-! sorting -/
def AllCmp (ds : List PyData) : Prop := ∀ d, d ∈ ds → ∀ d', d' ∈ ds → cmpable d d' = true
/-- tuples whose first items are of one type, or no tuple at all -/
def SortableW (ds : List PyData) : Prop := (∃ T, ∀ d, d ∈ ds → ∃ x r, d = .tuple (x :: r) ∧ dataType x = T) ∨ ∀ d, d ∈ ds → d ≠ .none ∧ ∀ xs, d ≠ .tuple xs
theorem key_of {h : Heap} {ds : List PyData} {v : Value} {d : PyData} {as : List Addr} (hd : d ∈ ds) (r : Reads h v d as) : (dataKind h ds).keyOf v = some (keyToks d) := by
  have q : ∃ d, d ∈ ds ∧ ∃ as, Reads h v d as := ⟨d, hd, as, r⟩
  have e : (dataKind h ds).keyOf v = some (keyToks q.choose) := by
    unfold dataKind
    exact dif_pos q
  obtain ⟨_, as', h2⟩ := q.choose_spec
  rw [e, (reads_det (fun _ _ z _ => z) r h2).1]

section
variable {prog : Program} {w : World} {A : Around} {E : Value → Shared → Prop} {s : Shared}
theorem one_w {f : Bool} {da db : PyData} {a b : Value} {as bs : List Addr} {Q : Bool → Shared → Prop} (hf : f = true → ∀ xs, da ≠ .tuple xs) (ra : Reads s.heap a da as) (rb : Reads s.heap b db bs) (la : da.canLay0 = true) (lb : db.canLay0 = true) (hc : cmpable da db = true) (hn : da ≠ .none)
    (hu : A.units + da.depth < cLine) (hq : Q (dataLt da db) s) : wpAny (model prog w) A (oneLt' f a b) Q E s := by
  cases f with
  | true => exact oneLt_alike hf ra rb (cmp_flat hc (hf rfl)) hn (by have := Nat.min_le_left da.depth db.depth; omega) hq
  | false =>
    rw [oneLt'_eq, if_neg Bool.false_ne_true]
    rw [order_w da db la hc] at hq
    exact wpAny_bind (rc_w _ da db A s a b as bs (Nat.le_refl _) ra rb la lb hc hn hu prog w E _ (wpAny_truthy_bool hq))
theorem lex_w {b fin : Bool} {Q : Bool → Shared → Prop} : ∀ (xs ys : List PyData) (i : Nat) (vs us : List Value) (as bs : List Addr), ReadsAll s.heap vs xs as → ReadsAll s.heap us ys bs → PyData.canLayAll0 xs = true → PyData.canLayAll0 ys = true → cmpables xs ys = true →
    A.units + PyData.depthAll xs < cLine → (b = true → i = 0 → ∀ x r t, xs = x :: r → x ≠ .tuple t) → fin = decide (xs.length < ys.length) → Q (wLts xs ys) s → KatLex prog w A b fin Q (vs.zip us) i s
  | [], [], i, _, _, _, _, ra, rb, _, _, _, _, _, hf, hq => by
    cases ra
    cases rb
    subst hf
    exact kat_nil hq
  | [], y :: ys, i, _, _, _, _, ra, rb, _, _, _, _, _, hf, hq => by
    cases ra
    subst hf
    exact kat_nil hq
  | x :: xs, [], i, _, _, _, _, ra, rb, _, _, _, _, _, hf, hq => by
    cases ra
    cases rb
    subst hf
    exact kat_nil hq
  | x :: xs, y :: ys, i, _, _, _, _, .cons r rs, .cons r' rs', lx, ly, hc, hu, hb, hf, hq => by
    simp only [PyData.canLayAll0, Bool.and_eq_true] at lx ly
    simp only [PyData.depthAll] at hu
    have d1 := Nat.le_max_left x.depth (PyData.depthAll xs)
    have d2 := Nat.le_max_right x.depth (PyData.depthAll xs)
    rw [cmpables] at hc
    rw [wLts] at hq
    have hf' : fin = decide (xs.length < ys.length) := by rw [hf]; simp
    refine kat_cons (eqAt_reads x y A s _ _ _ _ r r' lx.1 ly.1 (by have := Nat.min_le_left x.depth y.depth; omega) prog w _ _ ?_)
    cases e : PyData.eqv x y with
    | true =>
      rw [if_pos e] at hc hq
      exact kat_yes (lex_w xs ys (i + 1) _ _ _ _ rs rs' lx.2 ly.2 hc (by omega) (fun _ q => absurd q (Nat.succ_ne_zero i)) hf' hq)
    | false =>
      have e' : ¬ PyData.eqv x y = true := by rw [e]; exact Bool.false_ne_true
      rw [if_neg e'] at hc hq
      rw [← order_w x y lx.1 hc] at hq
      refine kat_no (one_w (fun q t => ?_) r r' lx.1 ly.1 hc (cmp_ne hc e) (by omega) hq)
      rw [Bool.and_eq_true] at q
      exact hb q.1 (by simpa using q.2) x xs t rfl
theorem sorts_w {vs : List Value} {ds : List PyData} (e : EachIs (fun v d => ∃ as, Reads s.heap v d as) vs ds) (hl : ∀ d, d ∈ ds → d.canLay0 = true) (hal : AllCmp ds) (hk : SortableW ds) (hu : ∀ d, d ∈ ds → A.units + d.depth < cLine) : SortsAt prog w A s (dataKind s.heap ds) vs := by
  refine ⟨fun v hv => ?_, ?_⟩
  · obtain ⟨d, hd, as, r⟩ := e.left v hv
    exact ⟨_, key_of hd r⟩
  · rcases hk with ⟨T, ht⟩ | hn
    · refine ⟨tuples' (T != Value.type "tuple"), ?_, fun h2 E Q hq => ?_⟩
      · intro E x y a b Q ha hb hq
        obtain ⟨d, as, hd, ra, rfl⟩ := dataKind_inv ha
        obtain ⟨d', as', hd', rb, rfl⟩ := dataKind_inv hb
        have hdd := hal d hd d' hd'
        have hr := hu d hd
        have l1 := hl d hd
        have l2 := hl d' hd'
        obtain ⟨x1, r1, rfl, t1⟩ := ht d hd
        obtain ⟨x2, r2, rfl, t2⟩ := ht d' hd'
        have hq' : Q (dataLt (.tuple (x1 :: r1)) (.tuple (x2 :: r2))) s := hq
        rw [order_w _ _ l1 hdd, wLt] at hq'
        cases ra with
        | @tuple l o us n _ _ g1 g2 g3 g4 =>
          cases rb with
          | @tuple l' o' us' n' _ _ k1 k2 k3 k4 =>
            have n1 : us.size = (x1 :: r1).length := by simpa using SeqAt.ReadsAll.length _ _ _ g4
            have n2 : us'.size = (x2 :: r2).length := by simpa using SeqAt.ReadsAll.length _ _ _ k4
            refine kat_lt g1 g3 k1 k3 (lex_w (x1 :: r1) (x2 :: r2) 0 _ _ _ _ g4 k4 (by simpa [PyData.canLay0] using l1) (by simpa [PyData.canLay0] using l2) (by simpa [cmpable] using hdd) (by simp only [PyData.depth] at hr; omega) (fun hb _ x r t ex => ?_) (by rw [n1, n2]) hq')
            injection ex with e1 e2
            subst e1
            rw [← t1] at hb
            exact dataType_tuple hb t
      · obtain ⟨fs, t1, t2, t3⟩ := each_katTups e fun d hd => by obtain ⟨x, r, q, _⟩ := ht d hd; exact ⟨x, r, q⟩
        have hT : (T == T) = true := by
          cases ds with
          | nil => cases e; exact absurd h2 (by simp)
          | cons d _ =>
            obtain ⟨x, r, _, q⟩ := ht d (List.mem_cons_self ..)
            rw [← q]
            exact beq_self_eq_true _
        refine kat_kind (T := T) t1 (by omega) (fun f hf => ?_) hT hq
        obtain ⟨x, r, as, m1, m2⟩ := t3 f hf
        obtain ⟨x', r', q1, q2⟩ := ht _ m1
        injection q1 with q1
        injection q1 with q1 _
        subst q1
        rw [← q2]
        exact looks_reads m2
    · refine ⟨oneType', ?_, fun h2 E Q hq => ?_⟩
      · intro E x y a b Q ha hb hq
        obtain ⟨d, as, hd, ra, rfl⟩ := dataKind_inv ha
        obtain ⟨d', as', hd', rb, rfl⟩ := dataKind_inv hb
        rw [keyLt'_oneType]
        exact one_w (fun _ => (hn d hd).2) ra rb (hl d hd) (hl d' hd') (hal d hd d' hd') (hn d hd).1 (hu d hd) hq
      · cases ds with
        | nil =>
          cases e
          exact absurd h2 (by simp)
        | cons d₀ ds₀ =>
          refine kas_kind (T := dataType d₀) h2 (fun v hv => ?_) (dataType_other (hn d₀ (List.mem_cons_self ..)).2) (beq_self_eq_true _) hq
          obtain ⟨d, hd, as, r⟩ := e.left v hv
          rw [← cmp_type (hal d hd d₀ (List.mem_cons_self ..))]
          exact looks_reads r
theorem keys_w {h : Heap} {ds : List PyData} {vs : List Value} (e : EachIs (fun v d => ∃ as, Reads h v d as) vs ds) : EachIs (fun v d => (dataKind h ds).keyOf v = some (keyToks d)) vs ds :=
  (each_mem e).mono fun _ _ ⟨⟨_, r⟩, hd⟩ => key_of hd r
theorem sorted_w {β : Type} {vs : List Value} {bs : List β} {enc : β → PyData} {Rr : Value → β → Prop} {l : Addr} {Q : Value → Shared → Prop} (hl : s.heap.IsList l vs.toArray) (e : EachIs Rr vs bs) (er : EachIs (fun v b => ∃ as, Reads s.heap v (enc b) as) vs bs) (hla : ∀ b, b ∈ bs → (enc b).canLay0 = true) (hal : AllCmp (bs.map enc)) (hk : SortableW (bs.map enc)) (hL : bs.length ≤ sizeLine)
    (hu : ∀ b, b ∈ bs → A.units + 2 + (enc b).depth < cLine) (h : ∀ out, out.length = bs.length → EachIs Rr out (bs.mergeSort (dataLe false enc)) → Q (.ref (s.heap.objs.size + 1)) { s with heap := sortedAll s.heap vs (List.toArray out) }) :
    wpAny (model prog w) A (call (.builtin "sorted") [.ref l]) Q E s := by
  have er' : EachIs (fun v b => ∃ as, Reads (sortingHeap (copyHeap s.heap vs) (s.heap.objs.size + 1) vs) v (enc b) as) vs bs := er.mono fun _ _ ⟨as, r⟩ => ⟨as, PyProof.Rows.Reads.keeps (fun _ _ z => sorting_copy_old z) r⟩
  have em := each_map (R := fun v d => ∃ as, Reads (sortingHeap (copyHeap s.heap vs) (s.heap.objs.size + 1) vs) v d as) enc er'
  refine sorted_vals (κ := dataKind (sortingHeap (copyHeap s.heap vs) (s.heap.objs.size + 1) vs) (bs.map enc)) hl (sorts_w (s := { s with heap := sortingHeap (copyHeap s.heap vs) (s.heap.objs.size + 1) vs }) em (fun d hd => ?_) hal hk (bound_map hu)) (by rw [e.length]; exact hL) (h _ (by rw [sortVals_length false rfl]; exact e.length) ?_)
  · obtain ⟨b, hb, rfl⟩ := List.mem_map.mp hd
    exact hla b hb
  · exact sortVals_each (κ := dataKind _ (bs.map enc)) (fun b => keyToks (enc b)) e (each_of_map enc (keys_w em))
end
end PySem.DW

/-! a layer of data over the hand layer: values as trees, lists that are frozen once they are handed on, local lists that grow -/
namespace DL
open PySem PySem.Spec PyProof.Rows L2

abbrev St := L2.St
/-- a value as a tree; raw: any other value, as it is -/
inductive D where
  | non | bl (b : Bool) | int (i : Int) | str (s : List Nat) | tup (xs : List D) | lst (xs : List D) | dic (kvs : List (D × D)) | raw (v : V)

/-- a text's value -/
abbrev mkS (s : List Nat) : Str := ⟨s.toArray⟩
/-- a list that is never written again -/
def FzL (K : PySem.W.Frag) (H : Hp) (a : Addr) (xs : List V) : Prop := (∃ o, H a = some (.frz o (.lst xs))) ∨ SqL K (fun _ => none) a xs
theorem FzL.sq {K : PySem.W.Frag} {H : Hp} {a : Addr} {xs : List V} (h : FzL K H a xs) : SqL K H a xs := by
  rcases h with ⟨o, h⟩ | h
  · exact .inl (.inr ⟨o, h⟩)
  · rcases h with (h | ⟨o, h⟩) | h
    · cases h
    · cases h
    · exact .inr h
def kD : Key → D
  | .inl i => .int i
  | .inr s => .str s.cps.toList

mutual
inductive Rep (K : PySem.W.Frag) (H : Hp) : V → D → Prop
  | non : Rep K H .non .non
  | bl (b : Bool) : Rep K H (.bl b) (.bl b)
  | int (i : Int) : Rep K H (.int i) (.int i)
  | str (s : List Nat) : Rep K H (.str (mkS s)) (.str s)
  | tup {a : Addr} {vs : List V} {ds : List D} : SqT K H a vs → RepL K H vs ds → Rep K H (.ref a) (.tup ds)
  | lst {a : Addr} {vs : List V} {ds : List D} : FzL K H a vs → RepL K H vs ds → Rep K H (.ref a) (.lst ds)
  | dic {a : Addr} {o : Obj} {kvs : List (Key × V)} {ds : List (D × D)} : H a = some (.frz o (.dK kvs)) → ds.map (·.1) = kvs.map (fun p => kD p.1) → RepL K H (kvs.map (·.2)) (ds.map (·.2)) → Rep K H (.ref a) (.dic ds)
  | raw (v : V) : Rep K H v (.raw v)
inductive RepL (K : PySem.W.Frag) (H : Hp) : List V → List D → Prop
  | nil : RepL K H [] []
  | cons {v : V} {vs : List V} {d : D} {ds : List D} : Rep K H v d → RepL K H vs ds → RepL K H (v :: vs) (d :: ds)
end

/-- what never changes: tuples, frozen things -/
structure Ext (H H' : Hp) : Prop where
  tups : ∀ a xs, H a = some (.tup xs) → H' a = some (.tup xs)
  frzs : ∀ a o u, H a = some (.frz o u) → H' a = some (.frz o u)
theorem Ext.refl (H : Hp) : Ext H H := ⟨fun _ _ h => h, fun _ _ _ h => h⟩
theorem Ext.trans {H H1 H2 : Hp} (a : Ext H H1) (b : Ext H1 H2) : Ext H H2 := ⟨fun c xs h => b.tups c xs (a.tups c xs h), fun c o u h => b.frzs c o u (a.frzs c o u h)⟩
theorem Ext.sqT {K : PySem.W.Frag} {H H' : Hp} {a : Addr} {xs : List V} (e : Ext H H') (h : SqT K H a xs) : SqT K H' a xs := by
  rcases h with (h | ⟨o, h⟩) | h
  · exact .inl (.inl (e.tups _ _ h))
  · exact .inl (.inr ⟨o, e.frzs _ _ _ h⟩)
  · exact .inr h
theorem Ext.fzL {K : PySem.W.Frag} {H H' : Hp} {a : Addr} {xs : List V} (e : Ext H H') : FzL K H a xs → FzL K H' a xs
  | .inl ⟨o, q⟩ => .inl ⟨o, e.frzs _ _ _ q⟩
  | .inr q => .inr q
mutual
theorem Rep.ext {K : PySem.W.Frag} {H H' : Hp} (e : Ext H H') : ∀ {v : V} {d : D}, Rep K H v d → Rep K H' v d
  | _, _, .non => .non
  | _, _, .bl b => .bl b
  | _, _, .int i => .int i
  | _, _, .str s => .str s
  | _, _, .tup h r => .tup (e.sqT h) (RepL.ext e r)
  | _, _, .lst h r => .lst (e.fzL h) (RepL.ext e r)
  | _, _, .dic h k r => .dic (e.frzs _ _ _ h) k (RepL.ext e r)
  | _, _, .raw v => .raw v
theorem RepL.ext {K : PySem.W.Frag} {H H' : Hp} (e : Ext H H') : ∀ {vs : List V} {ds : List D}, RepL K H vs ds → RepL K H' vs ds
  | _, _, .nil => .nil
  | _, _, .cons h r => .cons (Rep.ext e h) (RepL.ext e r)
end
theorem RepL.length {K : PySem.W.Frag} {H : Hp} : ∀ {vs : List V} {ds : List D}, RepL K H vs ds → vs.length = ds.length
  | _, _, .nil => rfl
  | _, _, .cons _ r => by rw [List.length_cons, List.length_cons, RepL.length r]
theorem RepL.append {K : PySem.W.Frag} {H : Hp} : ∀ {vs ws : List V} {ds es : List D}, RepL K H vs ds → RepL K H ws es → RepL K H (vs ++ ws) (ds ++ es)
  | _, _, _, _, .nil, r => r
  | _, _, _, _, .cons h r, q => .cons h (RepL.append r q)
theorem RepL.take {K : PySem.W.Frag} {H : Hp} : ∀ {vs : List V} {ds : List D} (n : Nat), RepL K H vs ds → RepL K H (vs.take n) (ds.take n)
  | _, _, 0, _ => by simpa using .nil
  | _, _, _ + 1, .nil => .nil
  | _, _, n + 1, .cons h r => .cons h (RepL.take n r)
theorem RepL.drop {K : PySem.W.Frag} {H : Hp} : ∀ {vs : List V} {ds : List D} (n : Nat), RepL K H vs ds → RepL K H (vs.drop n) (ds.drop n)
  | _, _, 0, r => r
  | _, _, _ + 1, .nil => .nil
  | _, _, n + 1, .cons _ r => RepL.drop n r
theorem RepL.get {K : PySem.W.Frag} {H : Hp} : ∀ {vs : List V} {ds : List D} {i : Nat} {d : D}, RepL K H vs ds → ds[i]? = some d → ∃ v, vs[i]? = some v ∧ Rep K H v d
  | _, _, _, _, .nil, e => by simp at e
  | _, _, 0, _, .cons h _, e => by simp at e; subst e; exact ⟨_, rfl, h⟩
  | _, _, i + 1, _, .cons _ r, e => by
    obtain ⟨v, h1, h2⟩ := RepL.get (i := i) r (by simpa using e)
    exact ⟨v, by simpa using h1, h2⟩
theorem RepL.set {K : PySem.W.Frag} {H : Hp} {v : V} {d : D} (h : Rep K H v d) : ∀ {vs : List V} {ds : List D} (i : Nat), RepL K H vs ds → RepL K H (vs.set i v) (ds.set i d)
  | _, _, _, .nil => .nil
  | _, _, 0, .cons _ r => .cons h r
  | _, _, i + 1, .cons q r => .cons q (RepL.set h i r)
theorem RepL.eraseIdx {K : PySem.W.Frag} {H : Hp} : ∀ {vs : List V} {ds : List D} (i : Nat), RepL K H vs ds → RepL K H (vs.eraseIdx i) (ds.eraseIdx i)
  | _, _, _, .nil => .nil
  | _, _, 0, .cons _ r => r
  | _, _, i + 1, .cons q r => .cons q (RepL.eraseIdx i r)

/-! ### the shared thing that calls may change -/
structure Res where
  fp : Addr → Prop
  inv : Hp → Prop
  stab : ∀ {H H' : Hp}, (∀ a, fp a → H' a = H a) → inv H → inv H'
  has : ∀ {H : Hp} {a : Addr}, inv H → fp a → ∃ o, H a = some o ∧ Mut (some o)
/-- none -/
def Res.nil : Res := ⟨fun _ => False, fun _ => True, fun _ _ => trivial, fun _ h => h.elim⟩

/-- what an expression, a call does to the heap -/
structure Go (R : Res) (H H' : Hp) : Prop where
  keep : ∀ a o, H a = some o → ¬ R.fp a → H' a = some o
  inv : R.inv H → R.inv H'
theorem Go.refl {R : Res} (H : Hp) : Go R H H := ⟨fun _ _ h _ => h, id⟩
theorem Go.trans {R : Res} {H H1 H2 : Hp} (a : Go R H H1) (b : Go R H1 H2) : Go R H H2 := ⟨fun c o h n => b.keep c o (a.keep c o h n) n, fun i => b.inv (a.inv i)⟩
theorem Go.ext {R : Res} {H H' : Hp} (g : Go R H H') (i : R.inv H) : Ext H H' := by
  have nf : ∀ a o, H a = some o → ¬ Mut (some o) → ¬ R.fp a := fun a o h m z => by
    obtain ⟨o', h', m'⟩ := R.has i z
    rw [h] at h'; cases h'; exact m m'
  exact ⟨fun a xs h => g.keep a _ h (nf a _ h fun z => z), fun a o u h => g.keep a _ h (nf a _ h fun z => z)⟩
/-- a new object -/
theorem Go.new {R : Res} {H : Hp} {p : Addr} {o : HO} (n : H p = none) (i : R.inv H) : Go R H (upd H p o) := by
  refine ⟨fun a u h _ => ?_, fun _ => R.stab (fun a h => ?_) i⟩
  · rw [upd_ne (ne_of_none h n)]; exact h
  · obtain ⟨u, e, _⟩ := R.has i h
    exact upd_ne (ne_of_none e n)
/-- a tuple, a list that was frozen, laid anew -/
theorem Go.of_same {R : Res} {H H' : Hp} (s : Same H H') (i : R.inv H) : Go R H H' :=
  ⟨fun a o h _ => s a o h, fun _ => R.stab (fun a h => by obtain ⟨o, e, _⟩ := R.has i h; rw [e]; exact s a o e) i⟩

/-! ### the names of a def -/
inductive Sv where
  /-- nothing is known -/
  | no
  /-- a value that stays -/
  | val (d : D)
  /-- a list that only this name holds -/
  | own (ds : List D)
abbrev En := List Sv

inductive SvOk (K : PySem.W.Frag) (H0 H : Hp) : Option V → Sv → Prop
  | no {o : Option V} : SvOk K H0 H o .no
  | val {v : V} {d : D} : Rep K H v d → SvOk K H0 H (some v) (.val d)
  | own {a : Addr} {vs : List V} {ds : List D} : H a = some (.lst vs) → H0 a = none → RepL K H vs ds → SvOk K H0 H (some (.ref a)) (.own ds)
/-- the slots, and what stands in them -/
structure Sl (K : PySem.W.Frag) (H0 H : Hp) (σ : St) (ρ : En) : Prop where
  len : σ.length = ρ.length
  at_ : ∀ (i : Nat) (sl : Sv), ρ[i]? = some sl → ∃ o, σ[i]? = some o ∧ SvOk K H0 H o sl
  apart : ∀ (i j : Nat) (ds es : List D) (a : Addr), ρ[i]? = some (.own ds) → ρ[j]? = some (.own es) → σ[i]? = some (some (.ref a)) → σ[j]? = some (some (.ref a)) → i = j

section
variable {K : PySem.W.Frag} {R : Res} {H0 H H' : Hp} {σ : St} {ρ : En} {i : Nat} {v : V} {d : D}
theorem SvOk.go {o : Option V} {sl : Sv} (i0 : R.inv H0) (iH : R.inv H) (g : Go R H H') : SvOk K H0 H o sl → SvOk K H0 H' o sl
  | .no => .no
  | .val r => .val (r.ext (g.ext iH))
  | .own h n r => .own (g.keep _ _ h (fun z => by obtain ⟨u, e, _⟩ := R.has i0 z; rw [n] at e; cases e)) n (r.ext (g.ext iH))
theorem Sl.go (s : Sl K H0 H σ ρ) (i0 : R.inv H0) (iH : R.inv H) (g : Go R H H') : Sl K H0 H' σ ρ :=
  ⟨s.len, fun i sl e => let ⟨o, h1, h2⟩ := s.at_ i sl e; ⟨o, h1, h2.go i0 iH g⟩, s.apart⟩
theorem Sl.val (s : Sl K H0 H σ ρ) (e : ρ[i]? = some (.val d)) : ∃ v, σ[i]? = some (some v) ∧ Rep K H v d := by
  obtain ⟨o, h1, h2⟩ := s.at_ i _ e
  cases h2 with
  | val r => exact ⟨_, h1, r⟩
theorem Sl.own {ds : List D} (s : Sl K H0 H σ ρ) (e : ρ[i]? = some (.own ds)) : ∃ a vs, σ[i]? = some (some (.ref a)) ∧ H a = some (.lst vs) ∧ H0 a = Option.none ∧ RepL K H vs ds := by
  obtain ⟨o, h1, h2⟩ := s.at_ i _ e
  cases h2 with
  | own h n r => exact ⟨_, _, h1, h, n, r⟩
theorem getElem?_set_case {α : Type} {l : List α} {i j : Nat} {x y : α} (h : (l.set i x)[j]? = some y) : (j = i ∧ y = x ∧ i < l.length) ∨ (j ≠ i ∧ l[j]? = some y) := by
  by_cases e : j = i
  · subst e
    by_cases hl : j < l.length
    · rw [List.getElem?_set_self hl] at h; cases h; exact .inl ⟨rfl, rfl, hl⟩
    · rw [List.getElem?_eq_none (by simpa using hl)] at h; cases h
  · rw [List.getElem?_set_ne (Ne.symm e)] at h; exact .inr ⟨e, h⟩
/-- a name takes a value -/
theorem Sl.set (s : Sl K H0 H σ ρ) (r : Rep K H v d) : Sl K H0 H (σ.set i (some v)) (ρ.set i (.val d)) := by
  refine ⟨by simp [s.len], fun j sl e => ?_, fun j k ds es a e1 e2 e3 e4 => ?_⟩
  · rcases getElem?_set_case e with ⟨rfl, rfl, hl⟩ | ⟨hn, e⟩
    · exact ⟨some v, by rw [List.getElem?_set_self (by rw [s.len]; exact hl)], .val r⟩
    · obtain ⟨o, h1, h2⟩ := s.at_ j sl e
      exact ⟨o, by rw [List.getElem?_set_ne (Ne.symm hn)]; exact h1, h2⟩
  · rcases getElem?_set_case e1 with ⟨_, z, _⟩ | ⟨n1, e1⟩
    · cases z
    · rcases getElem?_set_case e2 with ⟨_, z, _⟩ | ⟨n2, e2⟩
      · cases z
      · rw [List.getElem?_set_ne (Ne.symm n1)] at e3
        rw [List.getElem?_set_ne (Ne.symm n2)] at e4
        exact s.apart j k ds es a e1 e2 e3 e4
/-- a name takes a new list -/
theorem Sl.setOwn {a : Addr} {vs : List V} {ds : List D} (s : Sl K H0 H σ ρ) (h : H a = some (.lst vs)) (n : H0 a = Option.none) (r : RepL K H vs ds)
    (new : ∀ (j : Nat) (es : List D), ρ[j]? = some (Sv.own es) → σ[j]? ≠ some (some (V.ref a))) : Sl K H0 H (σ.set i (some (.ref a))) (ρ.set i (.own ds)) := by
  refine ⟨by simp [s.len], fun j sl e => ?_, fun j k ds es b e1 e2 e3 e4 => ?_⟩
  · rcases getElem?_set_case e with ⟨rfl, rfl, hl⟩ | ⟨hn, e⟩
    · exact ⟨_, by rw [List.getElem?_set_self (by rw [s.len]; exact hl)], .own h n r⟩
    · obtain ⟨o, h1, h2⟩ := s.at_ j sl e
      exact ⟨o, by rw [List.getElem?_set_ne (Ne.symm hn)]; exact h1, h2⟩
  · rcases getElem?_set_case e1 with ⟨z1, _, l1⟩ | ⟨n1, f1⟩
    · rcases getElem?_set_case e2 with ⟨z2, _, l2⟩ | ⟨n2, f2⟩
      · rw [z1, z2]
      · subst z1
        rw [List.getElem?_set_self (by rw [s.len]; exact l1)] at e3
        rw [List.getElem?_set_ne (Ne.symm n2)] at e4
        cases e3
        exact absurd e4 (new k _ f2)
    · rcases getElem?_set_case e2 with ⟨z2, _, l2⟩ | ⟨n2, f2⟩
      · subst z2
        rw [List.getElem?_set_ne (Ne.symm n1)] at e3
        rw [List.getElem?_set_self (by rw [s.len]; exact l2)] at e4
        cases e4
        exact absurd e3 (new j _ f1)
      · rw [List.getElem?_set_ne (Ne.symm n1)] at e3
        rw [List.getElem?_set_ne (Ne.symm n2)] at e4
        exact s.apart j k _ _ b f1 f2 e3 e4
/-- a list that only name i holds is written -/
theorem ext_upd {a : Addr} {vs : List V} {o : HO} (h : H a = some (.lst vs)) : Ext H (upd H a o) :=
  ⟨fun b xs e => by rw [upd_ne (ne_of e h (by intro z; cases z))]; exact e, fun b o u e => by rw [upd_ne (ne_of e h (by intro z; cases z))]; exact e⟩
theorem Sl.write {a : Addr} {vs ws : List V} {ds es : List D} (s : Sl K H0 H σ ρ) (e : ρ[i]? = some (.own ds)) (eσ : σ[i]? = some (some (.ref a))) (h : H a = some (.lst vs)) (n : H0 a = Option.none) (r : RepL K H ws es) :
    Sl K H0 (upd H a (.lst ws)) σ (ρ.set i (.own es)) := by
  have x : Ext H (upd H a (.lst ws)) := ext_upd h
  refine ⟨by simp [s.len], fun j sl ej => ?_, fun j k ds' es' b e1 e2 e3 e4 => ?_⟩
  · rcases getElem?_set_case ej with ⟨rfl, rfl, hl⟩ | ⟨hn, ej⟩
    · exact ⟨_, eσ, .own upd_same n (r.ext x)⟩
    · obtain ⟨o, h1, h2⟩ := s.at_ j sl ej
      refine ⟨o, h1, ?_⟩
      cases h2 with
      | no => exact .no
      | val q => exact .val (q.ext x)
      | own hb nb q =>
        refine .own ?_ nb (q.ext x)
        rw [upd_ne (fun z => hn (s.apart j i _ _ _ ej e h1 (by rw [z]; exact eσ)))]
        exact hb
  · rcases getElem?_set_case e1 with ⟨z1, _, l1⟩ | ⟨n1, f1⟩
    · rcases getElem?_set_case e2 with ⟨z2, _, l2⟩ | ⟨n2, f2⟩
      · rw [z1, z2]
      · subst z1; exact s.apart _ _ _ _ b e f2 e3 e4
    · rcases getElem?_set_case e2 with ⟨z2, _, l2⟩ | ⟨n2, f2⟩
      · subst z2; exact s.apart _ _ _ _ b f1 e e3 e4
      · exact s.apart _ _ _ _ b f1 f2 e3 e4
end
end DL

namespace DL
open PySem PySem.Spec PyProof.Rows L2

/-- what an operand may be read as: a value, or a list of a name's own -/
inductive RepB (K : PySem.W.Frag) (R : Res) (H : Hp) : V → D → Prop
  | of {v : V} {d : D} : Rep K H v d → RepB K R H v d
  | own {a : Addr} {vs : List V} {ds : List D} : H a = some (.lst vs) → ¬ R.fp a → RepL K H vs ds → RepB K R H (.ref a) (.lst ds)
section
variable {K : PySem.W.Frag} {R : Res} {H H' : Hp} {v : V} {d : D}
theorem RepB.go (iH : R.inv H) (g : Go R H H') : RepB K R H v d → RepB K R H' v d
  | .of r => .of (r.ext (g.ext iH))
  | .own h n r => .own (g.keep _ _ h n) n (r.ext (g.ext iH))
/-- a list operand -/
theorem RepB.lst {ds : List D} (r : RepB K R H v (.lst ds)) : ∃ a vs, v = .ref a ∧ SqL K H a vs ∧ RepL K H vs ds := by
  cases r with
  | of r => cases r with
    | lst h q => exact ⟨_, _, rfl, h.sq, q⟩
  | own h _ q => exact ⟨_, _, rfl, .inl (.inl h), q⟩
theorem RepB.tup {ds : List D} (r : RepB K R H v (.tup ds)) : ∃ a vs, v = .ref a ∧ SqT K H a vs ∧ RepL K H vs ds := by
  cases r with
  | of r => cases r with
    | tup h q => exact ⟨_, _, rfl, h, q⟩
theorem RepB.int {i : Int} (r : RepB K R H v (.int i)) : v = .int i := by
  cases r with
  | of r => cases r; rfl
theorem RepB.bl {i : Bool} (r : RepB K R H v (.bl i)) : v = .bl i := by
  cases r with
  | of r => cases r; rfl
theorem RepB.non (r : RepB K R H v .non) : v = .non := by
  cases r with
  | of r => cases r; rfl
theorem RepB.str {i : List Nat} (r : RepB K R H v (.str i)) : v = .str (mkS i) := by
  cases r with
  | of r => cases r; rfl
theorem RepB.raw {x : V} (r : RepB K R H v (.raw x)) : v = x := by
  cases r with
  | of r => cases r; rfl
end

/-! ### what is wanted behind an expression -/
def LQ (K : PySem.W.Frag) (R : Res) (H : Hp) (Q : D → Prop) : VK := fun v H' => Go R H H' ∧ ∃ d, Rep K H' v d ∧ Q d
def LB (K : PySem.W.Frag) (R : Res) (H : Hp) (Q : D → Prop) : VK := fun v H' => Go R H H' ∧ ∃ d, RepB K R H' v d ∧ Q d
def LF (K : PySem.W.Frag) (R : Res) (H : Hp) (Q : List D → Prop) : VK := fun v H' => Go R H H' ∧ ∃ a vs ds, v = .ref a ∧ H a = none ∧ H' a = some (.lst vs) ∧ RepL K H' vs ds ∧ Q ds
def LT (R : Res) (H : Hp) (Q : Bool → Prop) : Bool → Hp → Prop := fun b H' => Go R H H' ∧ Q b
def LA (K : PySem.W.Frag) (R : Res) (H : Hp) (Q : List D → Prop) : List V → Hp → Prop := fun vs H' => Go R H H' ∧ ∃ ds, RepL K H' vs ds ∧ Q ds
inductive RepBL (K : PySem.W.Frag) (R : Res) (H : Hp) : List V → List D → Prop
  | nil : RepBL K R H [] []
  | cons {v : V} {vs : List V} {d : D} {ds : List D} : RepB K R H v d → RepBL K R H vs ds → RepBL K R H (v :: vs) (d :: ds)
theorem RepBL.go {K : PySem.W.Frag} {R : Res} {H H' : Hp} (iH : R.inv H) (g : Go R H H') : ∀ {vs : List V} {ds : List D}, RepBL K R H vs ds → RepBL K R H' vs ds
  | _, _, .nil => .nil
  | _, _, .cons h r => .cons (h.go iH g) (RepBL.go iH g r)
def LAB (K : PySem.W.Frag) (R : Res) (H : Hp) (Q : List D → Prop) : List V → Hp → Prop := fun vs H' => Go R H H' ∧ ∃ ds, RepBL K R H' vs ds ∧ Q ds

abbrev XE' := En → (D → Prop) → Prop
abbrev XL' := En → (List D → Prop) → Prop
abbrev XB' := En → (Bool → Prop) → Prop

section
variable (X : Cx) (R : Res)
structure DE (e : Expr) (T : XE') : Prop where
  run : ∀ (pins : List (Addr × Obj)) (s : Shared) (σ : St) (H H0 : Hp) (ρ : En) (Q : D → Prop), Inv X pins σ H s → R.inv H0 → R.inv H → Sl X.K H0 H σ ρ → T ρ Q → wpAny (model X.prog X.w) X.A (eval e X.env) (EP X pins σ (LQ X.K R H Q)) X.xe s
structure DB (e : Expr) (T : XE') : Prop where
  run : ∀ (pins : List (Addr × Obj)) (s : Shared) (σ : St) (H H0 : Hp) (ρ : En) (Q : D → Prop), Inv X pins σ H s → R.inv H0 → R.inv H → Sl X.K H0 H σ ρ → T ρ Q → wpAny (model X.prog X.w) X.A (eval e X.env) (EP X pins σ (LB X.K R H Q)) X.xe s
structure DF (e : Expr) (T : XL') : Prop where
  run : ∀ (pins : List (Addr × Obj)) (s : Shared) (σ : St) (H H0 : Hp) (ρ : En) (Q : List D → Prop), Inv X pins σ H s → R.inv H0 → R.inv H → Sl X.K H0 H σ ρ → T ρ Q → wpAny (model X.prog X.w) X.A (eval e X.env) (EP X pins σ (LF X.K R H Q)) X.xe s
structure DT (e : Expr) (T : XB') : Prop where
  run : ∀ (pins : List (Addr × Obj)) (s : Shared) (σ : St) (H H0 : Hp) (ρ : En) (Q : Bool → Prop), Inv X pins σ H s → R.inv H0 → R.inv H → Sl X.K H0 H σ ρ → T ρ Q → wpAny (model X.prog X.w) X.A (isTrue e X.env (eval e X.env)) (TP X pins σ (LT R H Q)) X.xe s
structure DW (e : Expr) (T : XB') : Prop where
  run : ∀ (whole : Sem Value) (pins : List (Addr × Obj)) (s : Shared) (σ : St) (H H0 : Hp) (ρ : En) (Q : Bool → Prop), Inv X pins σ H s → R.inv H0 → R.inv H → Sl X.K H0 H σ ρ → T ρ Q → wpAny (model X.prog X.w) X.A (isTrue e X.env whole) (TP X pins σ (LT R H Q)) X.xe s
structure DA (es : List Expr) (T : XL') : Prop where
  run : ∀ (pos : Pos) (pins : List (Addr × Obj)) (s : Shared) (σ : St) (H H0 : Hp) (ρ : En) (Q : List D → Prop), Inv X pins σ H s → R.inv H0 → R.inv H → Sl X.K H0 H σ ρ → T ρ Q → wpAny (model X.prog X.w) X.A (spliced (backTo pos (starEach es X.env))) (AP X pins σ (LA X.K R H Q)) X.xe s
structure DAB (es : List Expr) (T : XL') : Prop where
  run : ∀ (pos : Pos) (pins : List (Addr × Obj)) (s : Shared) (σ : St) (H H0 : Hp) (ρ : En) (Q : List D → Prop), Inv X pins σ H s → R.inv H0 → R.inv H → Sl X.K H0 H σ ρ → T ρ Q → wpAny (model X.prog X.w) X.A (spliced (backTo pos (starEach es X.env))) (AP X pins σ (LAB X.K R H Q)) X.xe s
end

/-! ### to the hand layer and back -/
section
variable {X : Cx} {R : Res} {e a b c : Expr} {T Ta Tb : XE'} {t : TE} {pos : Pos} {es : List Expr}
def toE (X : Cx) (R : Res) (T : XE') : TE := fun σ H Q => ∃ (H0 : Hp) (ρ : En) (Q' : D → Prop), R.inv H0 ∧ R.inv H ∧ Sl X.K H0 H σ ρ ∧ T ρ Q' ∧ ∀ v H', LQ X.K R H Q' v H' → Q v H'
def toB (X : Cx) (R : Res) (T : XE') : TE := fun σ H Q => ∃ (H0 : Hp) (ρ : En) (Q' : D → Prop), R.inv H0 ∧ R.inv H ∧ Sl X.K H0 H σ ρ ∧ T ρ Q' ∧ ∀ v H', LB X.K R H Q' v H' → Q v H'
def toF (X : Cx) (R : Res) (T : XL') : TE := fun σ H Q => ∃ (H0 : Hp) (ρ : En) (Q' : List D → Prop), R.inv H0 ∧ R.inv H ∧ Sl X.K H0 H σ ρ ∧ T ρ Q' ∧ ∀ v H', LF X.K R H Q' v H' → Q v H'
def toT (X : Cx) (R : Res) (T : XB') : TT := fun σ H Q => ∃ (H0 : Hp) (ρ : En) (Q' : Bool → Prop), R.inv H0 ∧ R.inv H ∧ Sl X.K H0 H σ ρ ∧ T ρ Q' ∧ ∀ b H', LT R H Q' b H' → Q b H'
def toA (X : Cx) (R : Res) (T : XL') : TA := fun σ H Q => ∃ (H0 : Hp) (ρ : En) (Q' : List D → Prop), R.inv H0 ∧ R.inv H ∧ Sl X.K H0 H σ ρ ∧ T ρ Q' ∧ ∀ vs H', LA X.K R H Q' vs H' → Q vs H'
def toAB (X : Cx) (R : Res) (T : XL') : TA := fun σ H Q => ∃ (H0 : Hp) (ρ : En) (Q' : List D → Prop), R.inv H0 ∧ R.inv H ∧ Sl X.K H0 H σ ρ ∧ T ρ Q' ∧ ∀ vs H', LAB X.K R H Q' vs H' → Q vs H'
theorem EP.imp {pins : List (Addr × Obj)} {σ : St} {Q Q' : VK} {u : Value} {s : Shared} (h : EP X pins σ Q u s) (k : ∀ v H, Q v H → Q' v H) : EP X pins σ Q' u s := let ⟨v, H, I, r, q⟩ := h; ⟨v, H, I, r, k _ _ q⟩
theorem TP.imp {pins : List (Addr × Obj)} {σ : St} {Q Q' : Bool → Hp → Prop} {u : Bool} {s : Shared} (h : TP X pins σ Q u s) (k : ∀ v H, Q v H → Q' v H) : TP X pins σ Q' u s := let ⟨H, I, q⟩ := h; ⟨H, I, k _ _ q⟩
theorem AP.imp {pins : List (Addr × Obj)} {σ : St} {Q Q' : List V → Hp → Prop} {u : List Value} {s : Shared} (h : AP X pins σ Q u s) (k : ∀ v H, Q v H → Q' v H) : AP X pins σ Q' u s := let ⟨v, H, I, r, q⟩ := h; ⟨v, H, I, r, k _ _ q⟩
theorem DE.pe (h : DE X R e T) : PE X e (toE X R T) := ⟨fun pins s σ H Q I ⟨H0, ρ, Q', i0, iH, sl, hT, k⟩ => thn (h.run pins s σ H H0 ρ Q' I i0 iH sl hT) fun _ _ q => EP.imp q k⟩
theorem DB.pe (h : DB X R e T) : PE X e (toB X R T) := ⟨fun pins s σ H Q I ⟨H0, ρ, Q', i0, iH, sl, hT, k⟩ => thn (h.run pins s σ H H0 ρ Q' I i0 iH sl hT) fun _ _ q => EP.imp q k⟩
theorem DF.pe {T : XL'} (h : DF X R e T) : PE X e (toF X R T) := ⟨fun pins s σ H Q I ⟨H0, ρ, Q', i0, iH, sl, hT, k⟩ => thn (h.run pins s σ H H0 ρ Q' I i0 iH sl hT) fun _ _ q => EP.imp q k⟩
theorem DT.pt {T : XB'} (h : DT X R e T) : PT X e (toT X R T) := ⟨fun pins s σ H Q I ⟨H0, ρ, Q', i0, iH, sl, hT, k⟩ => thn (h.run pins s σ H H0 ρ Q' I i0 iH sl hT) fun _ _ q => TP.imp q k⟩
theorem DW.pw {T : XB'} (h : DW X R e T) : PW X e (toT X R T) := ⟨fun wh pins s σ H Q I ⟨H0, ρ, Q', i0, iH, sl, hT, k⟩ => thn (h.run wh pins s σ H H0 ρ Q' I i0 iH sl hT) fun _ _ q => TP.imp q k⟩
theorem DW.dt {T : XB'} (h : DW X R e T) : DT X R e T := ⟨h.run _⟩
theorem DA.pa {T : XL'} (h : DA X R es T) : PA X es (toA X R T) := ⟨fun pos pins s σ H Q I ⟨H0, ρ, Q', i0, iH, sl, hT, k⟩ => thn (h.run pos pins s σ H H0 ρ Q' I i0 iH sl hT) fun _ _ q => AP.imp q k⟩
theorem DAB.pa {T : XL'} (h : DAB X R es T) : PA X es (toAB X R T) := ⟨fun pos pins s σ H Q I ⟨H0, ρ, Q', i0, iH, sl, hT, k⟩ => thn (h.run pos pins s σ H H0 ρ Q' I i0 iH sl hT) fun _ _ q => AP.imp q k⟩
theorem DE.mk' (h : PE X e t) (hw : ∀ σ H H0 ρ Q, R.inv H0 → R.inv H → Sl X.K H0 H σ ρ → T ρ Q → t σ H (LQ X.K R H Q)) : DE X R e T := ⟨fun pins s σ H H0 ρ Q I i0 iH sl hT => h.run pins s σ H _ I (hw σ H H0 ρ Q i0 iH sl hT)⟩
theorem DF.mk' {T : XL'} (h : PE X e t) (hw : ∀ σ H H0 ρ Q, R.inv H0 → R.inv H → Sl X.K H0 H σ ρ → T ρ Q → t σ H (LF X.K R H Q)) : DF X R e T := ⟨fun pins s σ H H0 ρ Q I i0 iH sl hT => h.run pins s σ H _ I (hw σ H H0 ρ Q i0 iH sl hT)⟩
theorem DT.mk' {T : XB'} {t : TT} (h : PT X e t) (hw : ∀ σ H H0 ρ Q, R.inv H0 → R.inv H → Sl X.K H0 H σ ρ → T ρ Q → t σ H (LT R H Q)) : DT X R e T := ⟨fun pins s σ H H0 ρ Q I i0 iH sl hT => h.run pins s σ H _ I (hw σ H H0 ρ Q i0 iH sl hT)⟩
theorem DW.mk' {T : XB'} {t : TT} (h : PW X e t) (hw : ∀ σ H H0 ρ Q, R.inv H0 → R.inv H → Sl X.K H0 H σ ρ → T ρ Q → t σ H (LT R H Q)) : DW X R e T := ⟨fun wh pins s σ H H0 ρ Q I i0 iH sl hT => h.run wh pins s σ H _ I (hw σ H H0 ρ Q i0 iH sl hT)⟩
theorem DE.db (h : DE X R e T) : DB X R e T := ⟨fun pins s σ H H0 ρ Q I i0 iH sl hT => thn (h.run pins s σ H H0 ρ Q I i0 iH sl hT) fun _ _ q => EP.imp q fun _ _ ⟨g, d, r, q⟩ => ⟨g, d, .of r, q⟩⟩
theorem DE.imp {T' : XE'} (h : DE X R e T) (k : ∀ ρ Q, T' ρ Q → T ρ Q) : DE X R e T' := ⟨fun pins s σ H H0 ρ Q I i0 iH sl hT => h.run pins s σ H H0 ρ Q I i0 iH sl (k ρ Q hT)⟩

/-! ### names, constants -/
def dV (i : Nat) : XE' := fun ρ Q => ∃ d, ρ[i]? = some (.val d) ∧ Q d
theorem dv (i : Nat) {x : Str} {pos : Pos} (hN : X.N[i]? = some x := by rfl) (hv : Vis X.env.scope x := by first | exact Or.inl rfl | exact Or.inr (Or.inl rfl) | exact Or.inr (Or.inr rfl)) (hd : (x == ("__debug__" : Str)) = false := by decide)
    (hcd : (x == ("__classdict__" : Str)) = false := by decide) : DE X R (.Name x pos) (dV i) :=
  DE.mk' (pv i hN hv hd hcd) fun σ H H0 ρ Q i0 iH sl ⟨d, e, q⟩ => let ⟨v, e1, r⟩ := sl.val e; ⟨v, e1, Go.refl H, d, r, q⟩
/-- a name's own list, read -/
def dO (i : Nat) : XE' := fun ρ Q => ∃ ds, ρ[i]? = some (.own ds) ∧ Q (.lst ds)
theorem dbo (i : Nat) {x : Str} {pos : Pos} (hN : X.N[i]? = some x := by rfl) (hv : Vis X.env.scope x := by first | exact Or.inl rfl | exact Or.inr (Or.inl rfl) | exact Or.inr (Or.inr rfl)) (hd : (x == ("__debug__" : Str)) = false := by decide)
    (hcd : (x == ("__classdict__" : Str)) = false := by decide) : DB X R (.Name x pos) (dO i) :=
  ⟨fun pins s σ H H0 ρ Q I i0 iH sl ⟨ds, e, q⟩ => (pv i hN hv hd hcd).run pins s σ H _ I (let ⟨a, vs, e1, h, n, r⟩ := sl.own e; ⟨.ref a, e1, Go.refl H, _, .own h (fun z => by obtain ⟨u, e, _⟩ := R.has i0 z; rw [n] at e; cases e) r, q⟩)⟩
def dC (d : D) : XE' := fun _ Q => Q d
theorem de_int {i j pos} : DE X R (.Constant (.int i) j pos) (dC (.int i)) := DE.mk' pe_int fun _ H _ _ _ _ _ _ q => ⟨Go.refl H, _, .int i, q⟩
theorem de_bl {b j pos} : DE X R (.Constant (.bool b) j pos) (dC (.bl b)) := DE.mk' pe_bl fun _ H _ _ _ _ _ _ q => ⟨Go.refl H, _, .bl b, q⟩
theorem de_non {j pos} : DE X R (.Constant .none j pos) (dC .non) := DE.mk' pe_non fun _ H _ _ _ _ _ _ q => ⟨Go.refl H, _, .non, q⟩
theorem de_str {x : Str} {z : List Nat} {j pos} (h : x = mkS z) : DE X R (.Constant (.str x) j pos) (dC (.str z)) := by
  subst h
  exact DE.mk' pe_str fun _ H _ _ _ _ _ _ q => ⟨Go.refl H, _, .str z, q⟩
/-- a module's constant, class, def -/
theorem de_glob {x : Str} {v : V} {u : Value} {pos : Pos} (hg : Gl X x) (hm : X.mg x = some u) (r : RelV v u) (hd : (x == ("__debug__" : Str)) = false := by decide) : DE X R (.Name x pos) (dC (.raw v)) :=
  DE.mk' (pe_glob hg hm r hd) fun _ H _ _ _ _ _ _ q => ⟨Go.refl H, _, .raw v, q⟩
theorem de_globI {x : Str} {i : Int} {t : Tok} {pos : Pos} (hg : Gl X x) (hm : X.mg x = some (.int i t)) (hd : (x == ("__debug__" : Str)) = false := by decide) : DE X R (.Name x pos) (dC (.int i)) :=
  DE.mk' (pe_glob (v := .int i) hg hm ⟨t, rfl⟩ hd) fun _ H _ _ _ _ _ _ q => ⟨Go.refl H, _, .int i, q⟩
theorem de_globS {x z : Str} {l : List Nat} {t : Tok} {pos : Pos} (hg : Gl X x) (hm : X.mg x = some (.str z t)) (hz : z = mkS l) (hd : (x == ("__debug__" : Str)) = false := by decide) : DE X R (.Name x pos) (dC (.str l)) := by
  subst hz
  exact DE.mk' (pe_glob (v := .str (mkS l)) hg hm ⟨t, rfl⟩ hd) fun _ H _ _ _ _ _ _ q => ⟨Go.refl H, _, .str l, q⟩

/-! ### operators -/
abbrev Op2 := D → D → (D → Prop) → Prop
/-- an operation on values whose operands may be read -/
def DOp (X : Cx) (R : Res) (f : Value → Value → Sem Value) (o : Op2) : Prop :=
  ∀ (pins : List (Addr × Obj)) (s : Shared) (σ : St) (H : Hp) (x y : V) (v u : Value) (dx dy : D) (Q : D → Prop), Inv X pins σ H s → R.inv H → RelV x v → RelV y u → RepB X.K R H x dx → RepB X.K R H y dy → o dx dy Q →
    wpAny (model X.prog X.w) X.A (f v u) (EP X pins σ (LQ X.K R H Q)) X.xe s
def DOpF (X : Cx) (R : Res) (f : Value → Value → Sem Value) (o : D → D → (List D → Prop) → Prop) : Prop :=
  ∀ (pins : List (Addr × Obj)) (s : Shared) (σ : St) (H : Hp) (x y : V) (v u : Value) (dx dy : D) (Q : List D → Prop), Inv X pins σ H s → R.inv H → RelV x v → RelV y u → RepB X.K R H x dx → RepB X.K R H y dy → o dx dy Q →
    wpAny (model X.prog X.w) X.A (f v u) (EP X pins σ (LF X.K R H Q)) X.xe s
def dBin (o : Op2) (Ta Tb : XE') : XE' := fun ρ Q => Ta ρ fun x => Tb ρ fun y => o x y Q
def dBinF (o : D → D → (List D → Prop) → Prop) (Ta Tb : XE') : XL' := fun ρ Q => Ta ρ fun x => Tb ρ fun y => o x y Q
theorem LQ.go {K : PySem.W.Frag} {H H1 : Hp} {Q : D → Prop} (g : Go R H H1) : ∀ v H', LQ K R H1 Q v H' → LQ K R H Q v H' := fun _ _ ⟨g', q⟩ => ⟨g.trans g', q⟩
theorem LB.go {K : PySem.W.Frag} {H H1 : Hp} {Q : D → Prop} (g : Go R H H1) : ∀ v H', LB K R H1 Q v H' → LB K R H Q v H' := fun _ _ ⟨g', q⟩ => ⟨g.trans g', q⟩
theorem Go.none_of {H H1 : Hp} {a : Addr} (g : Go R H H1) (i : R.inv H) (n : H1 a = none) : H a = none := by
  cases q : H a with
  | none => rfl
  | some o =>
    by_cases f : R.fp a
    · obtain ⟨u, e, _⟩ := R.has (g.inv i) f; rw [n] at e; cases e
    · rw [g.keep a o q f] at n; cases n
theorem LF.go {K : PySem.W.Frag} {H H1 : Hp} {Q : List D → Prop} (g : Go R H H1) (i : R.inv H) : ∀ v H', LF K R H1 Q v H' → LF K R H Q v H' := fun _ _ ⟨g', a, vs, ds, e, n, h⟩ => ⟨g.trans g', a, vs, ds, e, g.none_of i n, h⟩
theorem LT.go {H H1 : Hp} {Q : Bool → Prop} (g : Go R H H1) : ∀ v H', LT R H1 Q v H' → LT R H Q v H' := fun _ _ ⟨g', q⟩ => ⟨g.trans g', q⟩
/-- two operands -/
theorem bin2 {α : Type} (ha : DB X R a Ta) (hb : DB X R b Tb) {pins : List (Addr × Obj)} {s : Shared} {σ : St} {H H0 : Hp} {ρ : En} {P : D → D → Prop} {Q : α → Shared → Prop} {f : Value → Value → Sem α}
    (I : Inv X pins σ H s) (i0 : R.inv H0) (iH : R.inv H) (sl : Sl X.K H0 H σ ρ) (h : Ta ρ fun x => Tb ρ fun y => P x y)
    (hf : ∀ v u s2 x y H2 dx dy, Inv X pins σ H2 s2 → Go R H H2 → RelV x v → RelV y u → RepB X.K R H2 x dx → RepB X.K R H2 y dy → P dx dy → wpAny (model X.prog X.w) X.A (f v u) Q X.xe s2) :
    wpAny (model X.prog X.w) X.A (eval a X.env) (fun v s₁ => wpAny (model X.prog X.w) X.A (eval b X.env) (fun u s₂ => wpAny (model X.prog X.w) X.A (f v u) Q X.xe s₂) X.xe s₁) X.xe s := by
  refine thn (ha.run pins s σ H H0 ρ _ I i0 iH sl h) fun v s1 ⟨x, H1, I1, r1, g1, dx, p1, q1⟩ => ?_
  have i1 := g1.inv iH
  refine thn (hb.run pins s1 σ H1 H0 ρ _ I1 i0 i1 (sl.go i0 iH g1) q1) fun u s2 ⟨y, H2, I2, r2, g2, dy, p2, q2⟩ => ?_
  exact hf v u s2 x y H2 dx dy I2 (g1.trans g2) r1 r2 (p1.go i1 g2) p2 q2
theorem de_bin {op : Operator} {o : Op2} (ho : DOp X R (binaryOp op) o) (ha : DB X R a Ta) (hb : DB X R b Tb) : DE X R (.BinOp a op b pos) (dBin o Ta Tb) :=
  ⟨fun pins s σ H H0 ρ Q I i0 iH sl h => wpAny_BinOp (bin2 ha hb I i0 iH sl h fun v u s2 x y H2 dx dy I2 g r1 r2 p1 p2 q => thn (ho pins s2 σ H2 x y v u dx dy Q I2 (g.inv iH) r1 r2 p1 p2 q) fun _ _ z => EP.imp z (LQ.go g))⟩
theorem df_bin {op : Operator} {o : D → D → (List D → Prop) → Prop} (ho : DOpF X R (binaryOp op) o) (ha : DB X R a Ta) (hb : DB X R b Tb) : DF X R (.BinOp a op b pos) (dBinF o Ta Tb) :=
  ⟨fun pins s σ H H0 ρ Q I i0 iH sl h => wpAny_BinOp (bin2 ha hb I i0 iH sl h fun v u s2 x y H2 dx dy I2 g r1 r2 p1 p2 q => thn (ho pins s2 σ H2 x y v u dx dy Q I2 (g.inv iH) r1 r2 p1 p2 q) fun _ _ z => EP.imp z (LF.go g iH))⟩
theorem de_cmp {op : CmpOp} {o : Op2} (ho : DOp X R (compareOp op) o) (ha : DB X R a Ta) (hb : DB X R b Tb) (hm : behindInMarks op b = false) : DE X R (.Compare a [op] [b] pos) (dBin o Ta Tb) :=
  ⟨fun pins s σ H H0 ρ Q I i0 iH sl h => wpAny_Compare1 (bin2 ha hb I i0 iH sl h fun v u s2 x y H2 dx dy I2 g r1 r2 p1 p2 q => thn (ho pins s2 σ H2 x y v u dx dy Q I2 (g.inv iH) r1 r2 p1 p2 q) fun _ _ z => EP.imp z (LQ.go g)) hm⟩
/-- a comparison as a test -/
def dTst (T : XE') : XB' := fun ρ Q => T ρ fun d => ∃ k, d = .bl k ∧ Q k
theorem dt_cmp {op : CmpOp} {o : Op2} (ho : DOp X R (compareOp op) o) (ha : DB X R a Ta) (hb : DB X R b Tb) (hm : behindInMarks op b = false) : DT X R (.Compare a [op] [b] pos) (dTst (dBin o Ta Tb)) := by
  refine ⟨fun pins s σ H H0 ρ Q I i0 iH sl h => ?_⟩
  refine wpAny_isTrue_Compare1 (bin2 (P := fun x y => o x y fun d => ∃ k, d = .bl k ∧ Q k) ha hb I i0 iH sl h fun v u s2 x y H2 dx dy I2 g r1 r2 p1 p2 q => ?_) hm
  refine thn (ho pins s2 σ H2 x y v u dx dy _ I2 (g.inv iH) r1 r2 p1 p2 q) fun c s3 ⟨z, H3, I3, r3, g3, d, rd, k, e, qk⟩ => ?_
  subst e
  cases rd
  cases r3
  exact wpAny_truthy_bool ⟨H3, I3, g.trans g3, qk⟩
/-- an expression that is True or False, as a test -/
theorem dt_val (h : DE X R e T) (he : ∀ whole, isTrue e X.env whole = (do let v ← whole; standAt e.pos; holding [v] (truthy v)) := by intro _; rfl) : DT X R e (dTst T) := by
  refine ⟨fun pins s σ H H0 ρ Q I i0 iH sl hT => ?_⟩
  refine isTrue_plain (thn (h.run pins s σ H H0 ρ _ I i0 iH sl hT) fun v s1 ⟨x, H1, I1, r1, g1, d, rd, k, ek, q1⟩ => ?_) (he _)
  subst ek
  cases rd
  cases r1
  exact wpAny_truthy_bool ⟨H1, I1, g1, q1⟩
/-! ### and, or, not -/
section
variable {tA tB : XB'} {rest : List Expr}
def dAnd (t u : XB') : XB' := fun ρ Q => t ρ fun c => if c = true then u ρ Q else Q false
def dOr (t u : XB') : XB' := fun ρ Q => t ρ fun c => if c = true then Q true else u ρ Q
def dNot (t : XB') : XB' := fun ρ Q => t ρ fun c => Q (!c)
theorem TP.go {pins : List (Addr × Obj)} {σ : St} {H H1 : Hp} {Q : Bool → Prop} {b : Bool} {s : Shared} (g : Go R H H1) (h : TP X pins σ (LT R H1 Q) b s) : TP X pins σ (LT R H Q) b s := TP.imp h (LT.go g)
theorem dw_and1 (ha : DT X R a tA) : DW X R (.BoolOp .And [a] pos) tA :=
  DW.mk' (pw_and1 ha.pt) fun σ H H0 ρ Q i0 iH sl h => ⟨H0, ρ, Q, i0, iH, sl, h, fun _ _ q => q⟩
theorem dw_or1 (ha : DT X R a tA) : DW X R (.BoolOp .Or [a] pos) tA :=
  DW.mk' (pw_or1 ha.pt) fun σ H H0 ρ Q i0 iH sl h => ⟨H0, ρ, Q, i0, iH, sl, h, fun _ _ q => q⟩
theorem dw_and (ha : DT X R a tA) (hb : DW X R (.BoolOp .And (b :: rest) pos) tB) : DW X R (.BoolOp .And (a :: b :: rest) pos) (dAnd tA tB) :=
  DW.mk' (pw_and ha.pt hb.pw) fun σ H H0 ρ Q i0 iH sl h => ⟨H0, ρ, _, i0, iH, sl, h, fun c H1 ⟨g, q⟩ => by
    cases c with
    | true => exact ⟨H0, ρ, Q, i0, g.inv iH, sl.go i0 iH g, q, LT.go g⟩
    | false => exact ⟨g, q⟩⟩
theorem dw_or (ha : DT X R a tA) (hb : DW X R (.BoolOp .Or (b :: rest) pos) tB) : DW X R (.BoolOp .Or (a :: b :: rest) pos) (dOr tA tB) :=
  DW.mk' (pw_or ha.pt hb.pw) fun σ H H0 ρ Q i0 iH sl h => ⟨H0, ρ, _, i0, iH, sl, h, fun c H1 ⟨g, q⟩ => by
    cases c with
    | true => exact ⟨g, q⟩
    | false => exact ⟨H0, ρ, Q, i0, g.inv iH, sl.go i0 iH g, q, LT.go g⟩⟩
theorem dt_not (ha : DT X R a tA) : DT X R (.UnaryOp .Not a pos) (dNot tA) :=
  DT.mk' (pt_not ha.pt) fun σ H H0 ρ Q i0 iH sl h => ⟨H0, ρ, _, i0, iH, sl, h, fun _ _ q => q⟩
/-! as values: of what is True or False -/
def dAndV (t u : XE') : XE' := fun ρ Q => t ρ fun x => ∃ c, x = .bl c ∧ if c = true then u ρ Q else Q (.bl false)
def dOrV (t u : XE') : XE' := fun ρ Q => t ρ fun x => ∃ c, x = .bl c ∧ if c = true then Q (.bl true) else u ρ Q
def dNotV (t : XE') : XE' := fun ρ Q => t ρ fun x => ∃ c, x = .bl c ∧ Q (.bl (!c))
theorem de_one {op} (h : DE X R a Ta) : DE X R (.BoolOp op [a] pos) Ta :=
  DE.mk' (pe_one h.pe) fun σ H H0 ρ Q i0 iH sl h => ⟨H0, ρ, Q, i0, iH, sl, h, fun _ _ q => q⟩
theorem de_and (ha : DE X R a Ta) (hb : DE X R (.BoolOp .And (b :: rest) pos) Tb) : DE X R (.BoolOp .And (a :: b :: rest) pos) (dAndV Ta Tb) :=
  DE.mk' (pe_and ha.pe hb.pe) fun σ H H0 ρ Q i0 iH sl h => ⟨H0, ρ, _, i0, iH, sl, h, fun v H1 ⟨g, d, rd, c, ec, q⟩ => by
    subst ec
    cases rd
    refine ⟨c, rfl, ?_⟩
    cases c with
    | true => exact ⟨H0, ρ, Q, i0, g.inv iH, sl.go i0 iH g, q, LQ.go g⟩
    | false => exact ⟨g, _, .bl false, q⟩⟩
theorem de_or (ha : DE X R a Ta) (hb : DE X R (.BoolOp .Or (b :: rest) pos) Tb) : DE X R (.BoolOp .Or (a :: b :: rest) pos) (dOrV Ta Tb) :=
  DE.mk' (pe_or ha.pe hb.pe) fun σ H H0 ρ Q i0 iH sl h => ⟨H0, ρ, _, i0, iH, sl, h, fun v H1 ⟨g, d, rd, c, ec, q⟩ => by
    subst ec
    cases rd
    refine ⟨c, rfl, ?_⟩
    cases c with
    | true => exact ⟨g, _, .bl true, q⟩
    | false => exact ⟨H0, ρ, Q, i0, g.inv iH, sl.go i0 iH g, q, LQ.go g⟩⟩
theorem de_not (ha : DE X R a Ta) : DE X R (.UnaryOp .Not a pos) (dNotV Ta) :=
  DE.mk' (pe_not ha.pe) fun σ H H0 ρ Q i0 iH sl h => ⟨H0, ρ, _, i0, iH, sl, h, fun v H1 ⟨g, d, rd, c, ec, q⟩ => by
    subst ec
    cases rd
    exact ⟨c, rfl, g, _, .bl _, q⟩⟩
/-- a if t else b -/
def dIf (t : XB') (Ta Tb : XE') : XE' := fun ρ Q => t ρ fun c => if c = true then Ta ρ Q else Tb ρ Q
theorem de_if {c : Expr} (hc : DT X R c tA) (ha : DE X R a Ta) (hb : DE X R b Tb) : DE X R (.IfExp c a b pos) (dIf tA Ta Tb) :=
  DE.mk' (pe_ifExp hc.pt ha.pe hb.pe) fun σ H H0 ρ Q i0 iH sl h => ⟨H0, ρ, _, i0, iH, sl, h, fun c H1 ⟨g, q⟩ => by
    cases c with
    | true => exact ⟨H0, ρ, Q, i0, g.inv iH, sl.go i0 iH g, q, LQ.go g⟩
    | false => exact ⟨H0, ρ, Q, i0, g.inv iH, sl.go i0 iH g, q, LQ.go g⟩⟩
end
/-! ### argument lists, displays -/
def dNil : XL' := fun _ Q => Q []
def dCons (Ta : XE') (Tr : XL') : XL' := fun ρ Q => Ta ρ fun x => Tr ρ fun xs => Q (x :: xs)
theorem da_nil : DA X R [] dNil := ⟨fun _ _ _ _ H _ _ Q I _ _ _ h => Calls.spliced_nil ⟨[], H, I, .nil, Go.refl H, [], .nil, h⟩⟩
theorem da_cons {Tr : XL'} (ha : DE X R e Ta) (hr : DA X R es Tr) (hs : starEach (e :: es) X.env = (false, eval e X.env) :: starEach es X.env := by rfl) : DA X R (e :: es) (dCons Ta Tr) := by
  refine ⟨fun pos pins s σ H H0 ρ Q I i0 iH sl h => ?_⟩
  rw [hs]
  show wpAny _ _ (spliced ((false, eval e X.env) :: backTo pos (starEach es X.env))) _ _ s
  refine Calls.spliced_cons (thn (ha.run pins s σ H H0 ρ _ I i0 iH sl h) fun u s1 ⟨x, H1, I1, r1, g1, d, rd, q1⟩ => ?_)
  refine thn (hr.run pos pins s1 σ H1 H0 ρ _ I1 i0 (g1.inv iH) (sl.go i0 iH g1) q1) fun us s2 ⟨xs, H2, I2, r2, g2, ds, rds, q2⟩ => ?_
  exact ⟨x :: xs, H2, I2, .cons r1 r2, g1.trans g2, d :: ds, .cons (rd.ext (g2.ext (g1.inv iH))) rds, q2⟩
theorem dab_nil : DAB X R [] dNil := ⟨fun _ _ _ _ H _ _ Q I _ _ _ h => Calls.spliced_nil ⟨[], H, I, .nil, Go.refl H, [], .nil, h⟩⟩
theorem dab_cons {Tr : XL'} (ha : DB X R e Ta) (hr : DAB X R es Tr) (hs : starEach (e :: es) X.env = (false, eval e X.env) :: starEach es X.env := by rfl) : DAB X R (e :: es) (dCons Ta Tr) := by
  refine ⟨fun pos pins s σ H H0 ρ Q I i0 iH sl h => ?_⟩
  rw [hs]
  show wpAny _ _ (spliced ((false, eval e X.env) :: backTo pos (starEach es X.env))) _ _ s
  refine Calls.spliced_cons (thn (ha.run pins s σ H H0 ρ _ I i0 iH sl h) fun u s1 ⟨x, H1, I1, r1, g1, d, rd, q1⟩ => ?_)
  refine thn (hr.run pos pins s1 σ H1 H0 ρ _ I1 i0 (g1.inv iH) (sl.go i0 iH g1) q1) fun us s2 ⟨xs, H2, I2, r2, g2, ds, rds, q2⟩ => ?_
  exact ⟨x :: xs, H2, I2, .cons r1 r2, g1.trans g2, d :: ds, .cons (rd.go (g1.inv iH) g2) rds, q2⟩
def dTup (Tr : XL') : XE' := fun ρ Q => Tr ρ fun xs => xs.length ≤ 1000 ∧ Q (.tup xs)
def dLst (Tr : XL') : XL' := fun ρ Q => Tr ρ fun xs => xs.length ≤ 1000 ∧ Q xs
theorem le1000 {n : Nat} (h : n ≤ 1000) : n ≤ sizeLine := Nat.le_of_lt (small1000 h)
theorem de_tup {Tr : XL'} {x1} (h : DA X R es Tr) : DE X R (.Tuple es x1 pos) (dTup Tr) :=
  DE.mk' (pe_tup h.pa) fun σ H H0 ρ Q i0 iH sl h => ⟨H0, ρ, _, i0, iH, sl, h, fun vs H1 ⟨g, ds, rds, z, q⟩ => ⟨by rw [rds.length]; exact le1000 z, fun p n => by
    have g2 : Go R H1 (upd H1 p (.tup vs)) := Go.new n (g.inv iH)
    exact ⟨g.trans g2, _, .tup (SqT.of upd_same) (rds.ext (g2.ext (g.inv iH))), q⟩⟩⟩
theorem df_lst {Tr : XL'} (h : DA X R es Tr) : DF X R (.List es pos) (dLst Tr) :=
  DF.mk' (pe_lst h.pa) fun σ H H0 ρ Q i0 iH sl h => ⟨H0, ρ, _, i0, iH, sl, h, fun vs H1 ⟨g, ds, rds, z, q⟩ => ⟨by rw [rds.length]; exact le1000 z, fun p n => by
    have g2 : Go R H1 (upd H1 p (.lst vs)) := Go.new n (g.inv iH)
    exact ⟨g.trans g2, p, vs, ds, rfl, g.none_of iH n, upd_same, rds.ext (g2.ext (g.inv iH)), q⟩⟩⟩
/-- a new list is frozen -/
theorem freeze {K : PySem.W.Frag} {pins : List (Addr × Obj)} {σ : St} {Q : List D → Prop} {H : Hp} {u : Value} {s : Shared} (iH : R.inv H) (h : EP X pins σ (LF X.K R H Q) u s) : EP X pins σ (LQ X.K R H fun d => ∃ ds, d = .lst ds ∧ Q ds) u s := by
  obtain ⟨v, H', I, r, g, a, vs, ds, rfl, n, ha, rds, q⟩ := h
  obtain ⟨od, I'⟩ := I.lock ha trivial
  refine ⟨.ref a, _, I', r, ⟨fun b o e nf => ?_, fun i => ?_⟩, .lst ds, .lst (.inl ⟨od, upd_same⟩) (rds.ext (ext_upd ha)), ds, rfl, q⟩
  · rw [upd_ne (ne_of_none e n)]; exact g.keep b o e nf
  · refine R.stab (fun b fb => ?_) (g.inv i)
    obtain ⟨o, e, _⟩ := R.has i fb
    exact upd_ne (ne_of_none e n)
def dFz (T : XL') : XE' := fun ρ Q => T ρ fun ds => Q (.lst ds)
theorem DF.de {T : XL'} (h : DF X R e T) : DE X R e (dFz T) :=
  ⟨fun pins s σ H H0 ρ Q I i0 iH sl hT => thn (h.run pins s σ H H0 ρ _ I i0 iH sl hT) fun _ _ q => EP.imp (freeze (K := X.K) iH q) fun _ _ ⟨g, d, rd, ds, e, q⟩ => ⟨g, d, rd, by subst e; exact q⟩⟩
end
end DL

namespace DL
open PySem PySem.Spec PyProof.Rows L2

/-- what is wanted behind a statement -/
structure Dn where
  nx : En → Prop
  rt : D → Prop
  bk : En → Prop := fun _ => False
  ct : En → Prop := fun _ => False
abbrev XS := Dn → En → Prop
def LN (K : PySem.W.Frag) (R : Res) (H0 Hs : Hp) (P : En → Prop) : St → Hp → Prop := fun σ' H' => ∃ ρ', Go R H0 H' ∧ Ext Hs H' ∧ Sl K H0 H' σ' ρ' ∧ P ρ'
theorem LN.ext {K : PySem.W.Frag} {R : Res} {H0 Hs Ht : Hp} {P : En → Prop} {σ : St} {H : Hp} (x : Ext Hs Ht) : LN K R H0 Ht P σ H → LN K R H0 Hs P σ H := fun ⟨ρ, g, y, r⟩ => ⟨ρ, g, x.trans y, r⟩
def LE (K : PySem.W.Frag) (R : Res) (H0 Hs : Hp) (N : Dn) : Ends := ⟨LN K R H0 Hs N.nx, LQ K R H0 N.rt, LN K R H0 Hs N.bk, LN K R H0 Hs N.ct⟩
section
variable (X : Cx) (R : Res)
structure DS (st : Stmt) (T : XS) : Prop where
  run : ∀ (pins : List (Addr × Obj)) (s : Shared) (σ : St) (H H0 : Hp) (ρ : En) (N : Dn), Inv X pins σ H s → R.inv H0 → Go R H0 H → Sl X.K H0 H σ ρ → T N ρ → wpAny (model X.prog X.w) X.A (exec st X.env) (SP X pins (LE X.K R H0 H N)) X.xe s
structure DSs (st : List Stmt) (T : XS) : Prop where
  run : ∀ (pins : List (Addr × Obj)) (s : Shared) (σ : St) (H H0 : Hp) (ρ : En) (N : Dn), Inv X pins σ H s → R.inv H0 → Go R H0 H → Sl X.K H0 H σ ρ → T N ρ → wpAny (model X.prog X.w) X.A (execs st X.env) (SP X pins (LE X.K R H0 H N)) X.xe s
end
section
variable {X : Cx} {R : Res} {st : Stmt} {sts rest : List Stmt} {e : Expr} {T U : XS} {Te : XE'} {pos : Pos}
def toS (X : Cx) (R : Res) (T : XS) : TS := fun E σ H => ∃ (H0 : Hp) (ρ : En) (N : Dn), R.inv H0 ∧ Go R H0 H ∧ Sl X.K H0 H σ ρ ∧ T N ρ ∧ (∀ σ' H', LN X.K R H0 H N.nx σ' H' → E.nx σ' H') ∧ (∀ v H', LQ X.K R H0 N.rt v H' → E.rt v H') ∧ (∀ σ' H', LN X.K R H0 H N.bk σ' H' → E.bk σ' H') ∧ (∀ σ' H', LN X.K R H0 H N.ct σ' H' → E.ct σ' H')
theorem SP.imp {pins : List (Addr × Obj)} {E E' : Ends} {f : Flow} {s : Shared} (h : SP X pins E f s) (k1 : ∀ σ H, E.nx σ H → E'.nx σ H) (k2 : ∀ v H, E.rt v H → E'.rt v H) (k3 : ∀ σ H, E.bk σ H → E'.bk σ H) (k4 : ∀ σ H, E.ct σ H → E'.ct σ H) : SP X pins E' f s := by
  cases f with
  | next => obtain ⟨σ, H, I, q⟩ := h; exact ⟨σ, H, I, k1 _ _ q⟩
  | brk => obtain ⟨σ, H, I, q⟩ := h; exact ⟨σ, H, I, k3 _ _ q⟩
  | cont => obtain ⟨σ, H, I, q⟩ := h; exact ⟨σ, H, I, k4 _ _ q⟩
  | ret u => obtain ⟨v, σ, H, I, r, q⟩ := h; exact ⟨v, σ, H, I, r, k2 _ _ q⟩
theorem DS.ps (h : DS X R st T) : PS X st (toS X R T) := ⟨fun pins s σ H E I ⟨H0, ρ, N, i0, g, sl, hT, k1, k2, k3, k4⟩ => thn (h.run pins s σ H H0 ρ N I i0 g sl hT) fun _ _ q => SP.imp q k1 k2 k3 k4⟩
theorem DSs.pss (h : DSs X R sts T) : PSs X sts (toS X R T) := ⟨fun pins s σ H E I ⟨H0, ρ, N, i0, g, sl, hT, k1, k2, k3, k4⟩ => thn (h.run pins s σ H H0 ρ N I i0 g sl hT) fun _ _ q => SP.imp q k1 k2 k3 k4⟩
theorem DS.mk' {t : TS} (h : PS X st t) (hw : ∀ σ H H0 ρ N, R.inv H0 → Go R H0 H → Sl X.K H0 H σ ρ → T N ρ → t (LE X.K R H0 H N) σ H) : DS X R st T := ⟨fun pins s σ H H0 ρ N I i0 g sl hT => h.run pins s σ H _ I (hw σ H H0 ρ N i0 g sl hT)⟩
theorem DSs.mk' {t : TS} (h : PSs X sts t) (hw : ∀ σ H H0 ρ N, R.inv H0 → Go R H0 H → Sl X.K H0 H σ ρ → T N ρ → t (LE X.K R H0 H N) σ H) : DSs X R sts T := ⟨fun pins s σ H H0 ρ N I i0 g sl hT => h.run pins s σ H _ I (hw σ H H0 ρ N i0 g sl hT)⟩
theorem DS.imp {T' : XS} (h : DS X R st T) (k : ∀ N ρ, T' N ρ → T N ρ) : DS X R st T' := ⟨fun pins s σ H H0 ρ N I i0 g sl hT => h.run pins s σ H H0 ρ N I i0 g sl (k N ρ hT)⟩
theorem DSs.imp {T' : XS} (h : DSs X R sts T) (k : ∀ N ρ, T' N ρ → T N ρ) : DSs X R sts T' := ⟨fun pins s σ H H0 ρ N I i0 g sl hT => h.run pins s σ H H0 ρ N I i0 g sl (k N ρ hT)⟩
/-- a call of an expression within a statement -/
theorem toE.of {σ : St} {H H0 : Hp} {ρ : En} {Q : D → Prop} {Q' : VK} (i0 : R.inv H0) (g : Go R H0 H) (sl : Sl X.K H0 H σ ρ) (h : Te ρ Q) (k : ∀ v H' d, Go R H H' → Rep X.K H' v d → Q d → Q' v H') : toE X R Te σ H Q' :=
  ⟨H0, ρ, Q, i0, g.inv i0, sl, h, fun v H' ⟨g', d, r, q⟩ => k v H' d g' r q⟩

/-! ### blocks -/
def dNext : XS := fun N ρ => N.nx ρ
def dSeq (T U : XS) : XS := fun N ρ => T { N with nx := fun ρ' => U N ρ' } ρ
theorem dss_nil : DSs X R [] dNext := DSs.mk' pss_nil fun σ H H0 ρ N i0 g sl h => ⟨ρ, g, Ext.refl _, sl, h⟩
theorem dss_cons (h1 : DS X R st T) (h2 : DSs X R rest U) : DSs X R (st :: rest) (dSeq T U) :=
  DSs.mk' (pss_cons h1.ps h2.pss) fun σ H H0 ρ N i0 g sl h => ⟨H0, ρ, _, i0, g, sl, h, fun σ' H' ⟨ρ', g', x, sl', q⟩ => ⟨H0, ρ', N, i0, g', sl', q, fun _ _ z => z.ext x, fun _ _ z => z, fun _ _ z => z.ext x, fun _ _ z => z.ext x⟩, fun _ _ z => z, fun _ _ z => z, fun _ _ z => z⟩
theorem dss_one (h1 : DS X R st T) : DSs X R [st] T :=
  DSs.mk' (pss_one h1.ps) fun σ H H0 ρ N i0 g sl h => ⟨H0, ρ, N, i0, g, sl, h, fun _ _ z => z, fun _ _ z => z, fun _ _ z => z, fun _ _ z => z⟩
theorem ds_pass : DS X R (.Pass pos) dNext := DS.mk' ps_pass fun σ H H0 ρ N i0 g sl h => ⟨ρ, g, Ext.refl _, sl, h⟩
theorem ds_break : DS X R (.Break pos) (fun N ρ => N.bk ρ) := DS.mk' ps_break fun σ H H0 ρ N i0 g sl h => ⟨ρ, g, Ext.refl _, sl, h⟩
theorem ds_continue : DS X R (.Continue pos) (fun N ρ => N.ct ρ) := DS.mk' ps_continue fun σ H H0 ρ N i0 g sl h => ⟨ρ, g, Ext.refl _, sl, h⟩
def dDrop (Te : XE') : XS := fun N ρ => Te ρ fun _ => N.nx ρ
theorem ds_expr (he : DE X R e Te) (hs : swapsWith e none pos.line X.env = pure false := by rfl) : DS X R (.Expr e pos) (dDrop Te) :=
  DS.mk' (ps_expr he.pe hs) fun σ H H0 ρ N i0 g sl h => toE.of i0 g sl h fun v H' d g' r q => ⟨ρ, g.trans g', g'.ext (g.inv i0), sl.go i0 (g.inv i0) g', q⟩
def dRet (Te : XE') : XS := fun N ρ => Te ρ N.rt
theorem ds_ret (he : DE X R e Te) : DS X R (.Return (some e) pos) (dRet Te) :=
  DS.mk' (ps_ret he.pe) fun σ H H0 ρ N i0 g sl h => toE.of i0 g sl h fun v H' d g' r q => ⟨g.trans g', d, r, q⟩
theorem ds_retN : DS X R (.Return none pos) (fun N _ => N.rt .non) := DS.mk' ps_retN fun σ H H0 ρ N i0 g sl h => ⟨g, _, .non, h⟩
/-- an own list is frozen -/
theorem own_frz {pins : List (Addr × Obj)} {s : Shared} {σ : St} {H H0 : Hp} {ρ : En} {i : Nat} {ds : List D} (I : Inv X pins σ H s) (i0 : R.inv H0) (g : Go R H0 H) (sl : Sl X.K H0 H σ ρ) (e : ρ[i]? = some (.own ds)) :
    ∃ H', Inv X pins σ H' s ∧ Go R H0 H' ∧ Ext H H' ∧ Sl X.K H0 H' σ (ρ.set i (.val (.lst ds))) := by
  obtain ⟨a, vs, ea, ha, na, r⟩ := sl.own e
  obtain ⟨od, I'⟩ := I.lock ha trivial
  have x : Ext H (upd H a (.frz od (.lst vs))) := ext_upd ha
  refine ⟨_, I', ⟨fun b o eb nf => ?_, fun _ => R.stab (fun b fb => ?_) (g.inv i0)⟩, x, ⟨by simp [sl.len], fun j v ej => ?_, fun j k ds' es' b e1 e2 e3 e4 => ?_⟩⟩
  · rw [upd_ne (ne_of_none eb na)]; exact g.keep b o eb nf
  · obtain ⟨o, eo, _⟩ := R.has i0 fb
    exact upd_ne (ne_of_none eo na)
  · rcases getElem?_set_case ej with ⟨rfl, rfl, hl⟩ | ⟨hn, ej⟩
    · exact ⟨_, ea, .val (.lst (.inl ⟨od, upd_same⟩) (r.ext x))⟩
    · obtain ⟨o, h1, h2⟩ := sl.at_ j v ej
      refine ⟨o, h1, ?_⟩
      cases h2 with
      | no => exact .no
      | val q => exact .val (q.ext x)
      | own hb nb q =>
        refine .own ?_ nb (q.ext x)
        rw [upd_ne (fun z => hn (sl.apart j i _ _ _ ej e h1 (by rw [z]; exact ea)))]
        exact hb
  · rcases getElem?_set_case e1 with ⟨_, z, _⟩ | ⟨n1, f1⟩
    · cases z
    · rcases getElem?_set_case e2 with ⟨_, z, _⟩ | ⟨n2, f2⟩
      · cases z
      · exact sl.apart j k ds' es' b f1 f2 e3 e4
/-- ahead of a statement a name's own list is frozen -/
def dFrz (i : Nat) (T : XS) : XS := fun N ρ => ∃ ds, ρ[i]? = some (.own ds) ∧ T N (ρ.set i (.val (.lst ds)))
theorem DS.frz (i : Nat) (h : DS X R st T) : DS X R st (dFrz i T) := ⟨fun pins s σ H H0 ρ N I i0 g sl ⟨ds, e, q⟩ => by
  obtain ⟨H', I', g', x, sl'⟩ := own_frz I i0 g sl e
  exact thn (h.run pins s σ H' H0 _ N I' i0 g' sl' q) fun _ _ z => SP.imp z (fun _ _ z => z.ext x) (fun _ _ z => z) (fun _ _ z => z.ext x) fun _ _ z => z.ext x⟩
theorem DSs.frz (i : Nat) (h : DSs X R sts T) : DSs X R sts (dFrz i T) := ⟨fun pins s σ H H0 ρ N I i0 g sl ⟨ds, e, q⟩ => by
  obtain ⟨H', I', g', x, sl'⟩ := own_frz I i0 g sl e
  exact thn (h.run pins s σ H' H0 _ N I' i0 g' sl' q) fun _ _ z => SP.imp z (fun _ _ z => z.ext x) (fun _ _ z => z) (fun _ _ z => z.ext x) fun _ _ z => z.ext x⟩
def dIfS (c : XB') (T U : XS) : XS := fun N ρ => c ρ fun b => if b = true then T N ρ else U N ρ
theorem ds_if {c : Expr} {as bs : List Stmt} {tc : XB'} (hc : DT X R c tc) (ha : DSs X R as T) (hb : DSs X R bs U) : DS X R (.If c as bs pos) (dIfS tc T U) :=
  DS.mk' (ps_if hc.pt ha.pss hb.pss) fun σ H H0 ρ N i0 g sl h => ⟨H0, ρ, _, i0, g.inv i0, sl, h, fun b H1 ⟨g1, q⟩ => by
    cases b with
    | true => exact ⟨H0, ρ, N, i0, g.trans g1, sl.go i0 (g.inv i0) g1, q, fun _ _ z => z.ext (g1.ext (g.inv i0)), fun _ _ z => z, fun _ _ z => z.ext (g1.ext (g.inv i0)), fun _ _ z => z.ext (g1.ext (g.inv i0))⟩
    | false => exact ⟨H0, ρ, N, i0, g.trans g1, sl.go i0 (g.inv i0) g1, q, fun _ _ z => z.ext (g1.ext (g.inv i0)), fun _ _ z => z, fun _ _ z => z.ext (g1.ext (g.inv i0)), fun _ _ z => z.ext (g1.ext (g.inv i0))⟩⟩

/-! ### assignments -/
def bNm (i : Nat) : D → En → (En → Prop) → Prop := fun d ρ P => P (ρ.set i (.val d))
/-- a, b, .. : a tuple of so many -/
def bGo : List (D → En → (En → Prop) → Prop) → List D → En → (En → Prop) → Prop
  | [], [], ρ, P => P ρ
  | b :: bs, d :: ds, ρ, P => b d ρ fun ρ' => bGo bs ds ρ' P
  | _, _, _, _ => False
def bTup (bs : List (D → En → (En → Prop) → Prop)) : D → En → (En → Prop) → Prop := fun d ρ P => ∃ ds, d = .tup ds ∧ ds.length = bs.length ∧ bGo bs ds ρ P
/-- slots outside of vs are as they were -/
def Kept (is : List Nat) (σ σ' : St) : Prop := ∀ vs : List Nat, (∀ i ∈ is, i ∈ vs) → wipe σ' vs = wipe σ vs
theorem wipe_set {σ : St} {i : Nat} {x : Option V} : ∀ {vs : List Nat}, i ∈ vs → wipe (σ.set i x) vs = wipe σ vs
  | [], h => by cases h
  | v :: vs, h => by
    unfold wipe
    by_cases hi : i ∈ vs
    · rw [wipe_set hi]
    · have e : i = v := by
        rcases List.mem_cons.mp h with e | e
        · exact e
        · exact absurd e hi
      subst e
      have : ∀ (us : List Nat), i ∉ us → wipe (σ.set i x) us = (wipe σ us).set i x := by
        intro us
        induction us with
        | nil => intro _; rfl
        | cons u us ih =>
          intro hn
          rw [List.mem_cons, not_or] at hn
          unfold wipe
          rw [ih hn.2, List.set_comm _ _ hn.1]
      rw [this vs hi, List.set_set]
theorem Kept.set {σ : St} {i : Nat} {x : Option V} : Kept [i] σ (σ.set i x) := fun vs h => wipe_set (h i (List.mem_singleton.mpr rfl))
structure DGs (X : Cx) (R : Res) (ts : List Expr) (bs : List (D → En → (En → Prop) → Prop)) (is : List Nat) : Prop where
  run : ∀ (pins : List (Addr × Obj)) (s : Shared) (σ : St) (H H0 : Hp) (ρ : En) (vs : List V) (us : List Value) (ds : List D) (P : En → Prop), Inv X pins σ H s → R.inv H0 → Go R H0 H → Sl X.K H0 H σ ρ → Vals vs us → RepL X.K H vs ds → bGo bs ds ρ P →
    wpAny (model X.prog X.w) X.A (assignInOrder ((assignEach ts X.env).map (·.2)) us) (fun _ s' => ∃ σ', Inv X pins σ' H s' ∧ LN X.K R H0 H P σ' H ∧ Kept is σ σ') X.xe s
structure DG (X : Cx) (R : Res) (tg : Expr) (B : D → En → (En → Prop) → Prop) (is : List Nat) : Prop where
  run : ∀ (pins : List (Addr × Obj)) (s : Shared) (σ : St) (H H0 : Hp) (ρ : En) (v : V) (u : Value) (d : D) (P : En → Prop), Inv X pins σ H s → R.inv H0 → Go R H0 H → Sl X.K H0 H σ ρ → RelV v u → Rep X.K H v d → B d ρ P →
    wpAny (model X.prog X.w) X.A (assign tg X.env u) (fun _ s' => ∃ σ', Inv X pins σ' H s' ∧ LN X.K R H0 H P σ' H ∧ Kept is σ σ') X.xe s
theorem dg_name {i : Nat} {x : Str} (hN : X.N.Nodup) (hi : X.N[i]? = some x) (hx : Loc X.env.scope x) (hf : X.fn x = true ∨ X.env.scope.names.lookup x = some .local := by first | exact .inl rfl | exact .inr rfl | assumption) : DG X R (.Name x pos) (bNm i) [i] :=
  ⟨fun pins s σ H H0 ρ v u d P I i0 g sl rv r hP => thn ((pg_name hN hi hx hf).run pins s σ H v u (fun σ' H' => σ' = σ.set i (some v) ∧ H' = H) I rv ⟨rfl, rfl⟩) fun _ s' ⟨σ', H', I', e1, e2⟩ => by
    subst e1; subst e2
    exact ⟨_, I', ⟨_, g, Ext.refl _, sl.set r, hP⟩, Kept.set⟩⟩
theorem dgs_nil : DGs X R [] [] [] := ⟨fun pins s σ H H0 ρ vs us ds P I i0 g sl rv r hP => by
  cases r
  · cases rv
    exact assignInOrder_nil ⟨σ, I, ⟨ρ, g, Ext.refl _, sl, hP⟩, fun _ _ => rfl⟩
  · exact hP.elim⟩
theorem dgs_cons {t : Expr} {ts : List Expr} {B : D → En → (En → Prop) → Prop} {bs : List (D → En → (En → Prop) → Prop)} {is js : List Nat} (h1 : DG X R t B is) (h2 : DGs X R ts bs js)
    (hs : (assignEach (t :: ts) X.env).map (·.2) = assign t X.env :: (assignEach ts X.env).map (·.2) := by rfl) : DGs X R (t :: ts) (B :: bs) (is ++ js) := ⟨fun pins s σ H H0 ρ vs us ds P I i0 g sl rv r hP => by
  cases r with
  | nil => exact hP.elim
  | cons rd rds =>
    cases rv with
    | cons r1 rr =>
      rw [hs]
      refine assignInOrder_cons (thn (h1.run pins s σ H H0 ρ _ _ _ _ I i0 g sl r1 rd hP) fun _ s1 ⟨σ1, I1, ⟨ρ1, g1, x1, sl1, q1⟩, k1⟩ => ?_)
      exact thn (h2.run pins s1 σ1 H H0 ρ1 _ _ _ P I1 i0 g1 sl1 rr rds q1) fun _ _ ⟨σ2, I2, q2, k2⟩ => ⟨σ2, I2, q2, fun vs h => (k2 vs fun i hi => h i (List.mem_append_right _ hi)).trans (k1 vs fun i hi => h i (List.mem_append_left _ hi))⟩⟩
theorem dg_tup {es : List Expr} {k n : Nat} {bs : List (D → En → (En → Prop) → Prop)} {is : List Nat} (hc : X.calm = true) (h : DGs X R es bs is) (hn : (assignEach es X.env).length = n := by rfl) (hst : (assignEach es X.env).findIdx? (·.1) = none := by rfl) (hb : bs.length = n := by rfl) :
    DG X R (.Tuple es k pos) (bTup bs) is := ⟨fun pins s σ H H0 ρ v u d P I i0 g sl rv r ⟨ds, e, hl, hP⟩ => by
  subst e
  cases r with
  | tup hq rds =>
    cases rv
    obtain ⟨its, rvs, ht, hz⟩ := I.tuple hq
    refine assign_Tuple_tuple (I.ok.hd hc) ht (by simp [hn, ← rvs.length, rds.length, hl, hb]) hst fun h' hx => ?_
    have I1 : Inv X pins σ H { s with heap := h' } := I.kept (t' := s.toks) fun b o e => hx b o (Nat.ne_of_lt (Heap.lt_size e)) e
    exact h.run pins _ σ H H0 ρ _ _ ds P I1 i0 g sl (by simpa using rvs) rds hP⟩
def dAsg (Te : XE') (B : D → En → (En → Prop) → Prop) : XS := fun N ρ => Te ρ fun d => B d ρ N.nx
theorem ds_asg {tg : Expr} {B : D → En → (En → Prop) → Prop} {is : List Nat} (he : DE X R e Te) (hg : DG X R tg B is) (hs : swapsWithSole [tg] e pos.line X.env = pure false := by rfl) (hw : swappedStores [tg] e X.env = pure none := by rfl)
    (h1 : (assignEach [tg] X.env).map (·.2) = [assign tg X.env] := by rfl) : DS X R (.Assign [tg] e pos) (dAsg Te B) := by
  refine ⟨fun pins s σ H H0 ρ N I i0 g sl h => ?_⟩
  refine wpAny_Assign_stores (thn (he.run pins s σ H H0 ρ _ I i0 (g.inv i0) sl h) fun v s1 ⟨x, H1, I1, r1, g1, d, rd, q1⟩ => ?_) hs hw
  rw [h1]
  exact thn (hg.run pins s1 σ H1 H0 ρ x v d _ I1 i0 (g.trans g1) (sl.go i0 (g.inv i0) g1) r1 rd q1) fun _ s2 ⟨σ', I', q, _⟩ => ⟨σ', H1, I', q.ext (g1.ext (g.inv i0))⟩
def dSet (i : Nat) (Te : XE') : XS := fun N ρ => Te ρ fun d => N.nx (ρ.set i (.val d))
theorem ds_set {i : Nat} {x : Str} {pos' : Pos} (hN : X.N.Nodup) (hi : X.N[i]? = some x) (hx : Loc X.env.scope x) (he : DE X R e Te) (hs : swapsWith e (some (.Name x pos')) pos.line X.env = pure false := by rfl) (hf : X.fn x = true ∨ X.env.scope.names.lookup x = some .local := by first | exact .inl rfl | exact .inr rfl | assumption) :
    DS X R (.Assign [.Name x pos'] e pos) (dSet i Te) :=
  DS.mk' (ps_set hN hi hx he.pe hs hf) fun σ H H0 ρ N i0 g sl h => toE.of i0 g sl h fun v H' d g' r q => ⟨_, g.trans g', g'.ext (g.inv i0), (sl.go i0 (g.inv i0) g').set r, q⟩
def dSetO (i : Nat) (Te : XL') : XS := fun N ρ => Te ρ fun ds => N.nx (ρ.set i (.own ds))
/-- a new list in a name's slot -/
theorem own_new {σ : St} {H H0 H' : Hp} {ρ : En} {i : Nat} {a : Addr} {vs : List V} {ds : List D} (i0 : R.inv H0) (g : Go R H0 H) (sl : Sl X.K H0 H σ ρ) (g' : Go R H H') (n : H a = none) (ha : H' a = some (.lst vs)) (r : RepL X.K H' vs ds) :
    Go R H0 H' ∧ Sl X.K H0 H' (σ.set i (some (.ref a))) (ρ.set i (.own ds)) := by
  refine ⟨g.trans g', (sl.go i0 (g.inv i0) g').setOwn ha (g.none_of i0 n) r fun j es ej e => ?_⟩
  obtain ⟨b, ws, eb, hb, _, _⟩ := sl.own ej
  rw [eb] at e
  cases e
  rw [n] at hb; cases hb
theorem ds_setO {i : Nat} {x : Str} {pos' : Pos} {Te : XL'} (hN : X.N.Nodup) (hi : X.N[i]? = some x) (hx : Loc X.env.scope x) (he : DF X R e Te) (hs : swapsWith e (some (.Name x pos')) pos.line X.env = pure false := by rfl) (hf : X.fn x = true ∨ X.env.scope.names.lookup x = some .local := by first | exact .inl rfl | exact .inr rfl | assumption) :
    DS X R (.Assign [.Name x pos'] e pos) (dSetO i Te) :=
  DS.mk' (ps_set hN hi hx he.pe hs hf) fun σ H H0 ρ N i0 g sl h => ⟨H0, ρ, _, i0, g.inv i0, sl, h, fun v H' ⟨g', a, vs, ds, e, n, ha, r, q⟩ => by
    subst e
    obtain ⟨g2, sl2⟩ := own_new (i := i) i0 g sl g' n ha r
    exact ⟨_, g2, g'.ext (g.inv i0), sl2, q⟩⟩
/-- a, b = x, y (plain local names) -/
def dPar (i j : Nat) (Ta : XL') : XS := fun N ρ => Ta ρ fun ds => ∃ v w, ds = [v, w] ∧ N.nx ((ρ.set i (.val v)).set j (.val w))
theorem ds_par {i j : Nat} {x y : Str} {a b : Expr} {Ta : XL'} {px py pt : Pos} {kt k2 pt2} (hc : X.calm = true) (hN : X.N.Nodup) (hi : X.N[i]? = some x) (hj : X.N[j]? = some y) (hij : i ≠ j)
    (hx : X.env.scope.names.lookup x = some .local) (hy : X.env.scope.names.lookup y = some .local) (ha : DA X R [a, b] Ta)
    (hw : swappedStores [.Tuple [.Name x px, .Name y py] kt pt] (.Tuple [a, b] k2 pt2) X.env = pure (some [x, y]))
    (hs : swapsWithSole [.Tuple [.Name x px, .Name y py] kt pt] (.Tuple [a, b] k2 pt2) pos.line X.env = pure false := by rfl) :
    DS X R (.Assign [.Tuple [.Name x px, .Name y py] kt pt] (.Tuple [a, b] k2 pt2) pos) (dPar i j Ta) :=
  DS.mk' (ps_par hc hN hi hj hij hx hy ha.pa hw hs) fun σ H H0 ρ N i0 g sl h => ⟨H0, ρ, _, i0, g.inv i0, sl, h, fun vs H' ⟨g', ds, r, v, w, e, q⟩ => by
    subst e
    cases r with
    | cons r1 rr =>
      cases rr with
      | cons r2 rr =>
        cases rr
        exact ⟨_, _, rfl, _, g.trans g', g'.ext (g.inv i0), ((sl.go i0 (g.inv i0) g').set r1).set r2, q⟩⟩
def dPar3 (i j l : Nat) (Ta : XL') : XS := fun N ρ => Ta ρ fun ds => ∃ u v w, ds = [u, v, w] ∧ N.nx (((ρ.set i (.val u)).set j (.val v)).set l (.val w))
theorem ds_par3 {i j l : Nat} {x y z : Str} {a b c : Expr} {Ta : XL'} {px py pz pt : Pos} {kt k2 pt2} (hc : X.calm = true) (hN : X.N.Nodup) (hi : X.N[i]? = some x) (hj : X.N[j]? = some y) (hl : X.N[l]? = some z) (hij : i ≠ j) (hil : i ≠ l) (hjl : j ≠ l)
    (hx : X.env.scope.names.lookup x = some .local) (hy : X.env.scope.names.lookup y = some .local) (hz : X.env.scope.names.lookup z = some .local) (ha : DA X R [a, b, c] Ta)
    (hw : swappedStores [.Tuple [.Name x px, .Name y py, .Name z pz] kt pt] (.Tuple [a, b, c] k2 pt2) X.env = pure (some [x, y, z]))
    (hs : swapsWithSole [.Tuple [.Name x px, .Name y py, .Name z pz] kt pt] (.Tuple [a, b, c] k2 pt2) pos.line X.env = pure false := by rfl) :
    DS X R (.Assign [.Tuple [.Name x px, .Name y py, .Name z pz] kt pt] (.Tuple [a, b, c] k2 pt2) pos) (dPar3 i j l Ta) :=
  DS.mk' (ps_par3 hc hN hi hj hl hij hil hjl hx hy hz ha.pa hw hs) fun σ H H0 ρ N i0 g sl h => ⟨H0, ρ, _, i0, g.inv i0, sl, h, fun vs H' ⟨g', ds, r, u, v, w, e, q⟩ => by
    subst e
    cases r with
    | cons r1 rr =>
      cases rr with
      | cons r2 rr =>
        cases rr with
        | cons r3 rr =>
          cases rr
          exact ⟨_, _, _, rfl, _, g.trans g', g'.ext (g.inv i0), (((sl.go i0 (g.inv i0) g').set r1).set r2).set r3, q⟩⟩

/-! ### a list that grows -/
def dApp (i : Nat) (Te : XE') : XS := fun N ρ => ∃ ds, ρ[i]? = some (.own ds) ∧ ds.length < 1000000 ∧ Te ρ fun d => N.nx (ρ.set i (.own (ds ++ [d])))
theorem lt_line {n : Nat} (h : n < 1000000) : n < sizeLine := by rw [sizeLine_eq]; omega
theorem go_own {H H0 : Hp} {a : Addr} {o : HO} (i0 : R.inv H0) (g : Go R H0 H) (n : H0 a = none) : Go R H0 (upd H a o) :=
  ⟨fun b u eb nf => by rw [upd_ne (ne_of_none eb n)]; exact g.keep b u eb nf, fun i => R.stab (fun b fb => by obtain ⟨u, eu, _⟩ := R.has i0 fb; exact upd_ne (ne_of_none eu n)) (g.inv i)⟩
theorem ds_app (i : Nat) {call : Expr} (he : DE X R e Te) (hb : ∀ t, PA X [e] t → PE X call (tBM X.K "list" rAppend (tVar i) t)) (hst : starEach [e] X.env = (false, eval e X.env) :: starEach [] X.env := by rfl)
    (hs : swapsWith call none pos.line X.env = pure false := by rfl) : DS X R (.Expr call pos) (dApp i Te) :=
  DS.mk' (ps_expr (hb _ (pa_cons he.pe pa_nil hst)) hs) fun σ H H0 ρ N i0 g sl ⟨ds, e, hl, h⟩ => by
    obtain ⟨a, vs, ea, ha, na, r⟩ := sl.own e
    refine ⟨.ref a, ea, .inl ⟨rfl, _, SqL.of ha⟩, toE.of i0 g sl h fun v H' d g' rd q => ?_⟩
    have ha' : H' a = some (.lst vs) := g'.keep _ _ ha fun z => by obtain ⟨u, eu, _⟩ := R.has i0 z; rw [na] at eu; cases eu
    refine ⟨a, vs, v, rfl, rfl, ha', by rw [r.length]; exact lt_line hl, ?_⟩
    have r' := r.ext (g'.ext (g.inv i0))
    exact ⟨_, go_own i0 (g.trans g') na, (g'.ext (g.inv i0)).trans (ext_upd ha'), (sl.go i0 (g.inv i0) g').write e ea ha' na (r'.append (.cons rd .nil)), q⟩

/-! ### what is walked -/
/-- the items that an iterator gives -/
structure ItD (K : PySem.W.Frag) (R : Res) (H1 : Hp) (J : It) (ds : List D) : Prop where
  go : ∀ i H, Ext H1 H → i < ds.length → J.go i H
  yld : ∀ i H x H' d, Ext H1 H → J.yld i H x H' → ds[i]? = some d → Same H H' ∧ (H' = H ∨ ∃ p o, H p = none ∧ H' = upd H p o) ∧ Rep K H' x d
  stop : ∀ i H, Ext H1 H → ds.length ≤ i → J.stop i H
  len : ∀ (X : Cx) (pins : List (Addr × Obj)) (σ : St) (H : Hp) (s : Shared), X.K = K → Inv X pins σ H s → Ext H1 H → ds.length ≤ sizeLine
structure DI (X : Cx) (R : Res) (tg iter : Expr) (T : XL') : Prop where
  run : ∀ (pins : List (Addr × Obj)) (s : Shared) (σ : St) (H H0 : Hp) (ρ : En) (P : List D → Prop), Inv X pins σ H s → R.inv H0 → R.inv H → Sl X.K H0 H σ ρ → T ρ P →
    wpAny (model X.prog X.w) X.A (eval iter X.env) (fun v s1 => wpAny (model X.prog X.w) X.A (pyIter v) (PIE X pins σ tg (fun J H1 => Go R H H1 ∧ ∃ ds, ItD X.K R H1 J ds ∧ P ds)) X.xe s1) X.xe s
def toI (X : Cx) (R : Res) (T : XL') : TI := fun σ H Q => ∃ (H0 : Hp) (ρ : En) (P : List D → Prop), R.inv H0 ∧ R.inv H ∧ Sl X.K H0 H σ ρ ∧ T ρ P ∧ ∀ J H1 ds, Go R H H1 → ItD X.K R H1 J ds → ds.length ≤ sizeLine → P ds → Q J H1
theorem DI.pi {tg iter : Expr} {T : XL'} (h : DI X R tg iter T) : PI X tg iter (toI X R T) := ⟨fun pins s σ H Q I ⟨H0, ρ, P, i0, iH, sl, hT, k⟩ => thn (h.run pins s σ H H0 ρ P I i0 iH sl hT) fun _ _ q => thn q fun _ _ ⟨it, fp, tn, J, H', e1, e2, e3, e4, e5, g, ds, id, p⟩ => ⟨it, fp, tn, J, H', e1, e2, e3, e4, e5, k J H' ds g id (id.len X pins σ H' _ rfl e2 (Ext.refl _)) p⟩⟩
theorem DI.mk' {tg iter : Expr} {T : XL'} {wi : TI} (h : PI X tg iter wi) (hw : ∀ σ H H0 ρ P, R.inv H0 → R.inv H → Sl X.K H0 H σ ρ → T ρ P → wi σ H (fun J H1 => Go R H H1 ∧ ∃ ds, ItD X.K R H1 J ds ∧ P ds)) : DI X R tg iter T :=
  ⟨fun pins s σ H H0 ρ P I i0 iH sl hT => h.run pins s σ H _ I (hw σ H H0 ρ P i0 iH sl hT)⟩
/-- an item of what stays -/
theorem itD_list {K : PySem.W.Frag} {H1 : Hp} {a : Addr} {vs : List V} {ds : List D} (h : FzL K H1 a vs) (r : RepL K H1 vs ds) : ItD K R H1 (Itl K a) ds where
  go := fun i H x hi => by
    have e := (x.fzL h).sq
    obtain ⟨v, hv, _⟩ := r.get (List.getElem?_eq_getElem hi)
    exact ⟨vs, v, e, hv⟩
  yld := fun i H y H' d x hy hd => by
    obtain ⟨e, q⟩ := hy
    subst e
    have e := (x.fzL h).sq
    obtain ⟨v, hv, rd⟩ := r.get hd
    have := q vs (e)
    rw [hv] at this; cases this
    exact ⟨Same.refl _, .inl rfl, rd.ext x⟩
  stop := fun i H x hi => by
    have e := (x.fzL h).sq
    exact ⟨vs, e, by rw [r.length]; exact hi⟩
  len := fun X pins σ H s hK I x => by
    have e := (x.fzL h).sq
    obtain ⟨_, _, _, z⟩ := I.list (hK ▸ e)
    rw [← r.length]; exact z
theorem itD_tup {K : PySem.W.Frag} {H1 : Hp} {a : Addr} {vs : List V} {ds : List D} (h : SqT K H1 a vs) (r : RepL K H1 vs ds) : ItD K R H1 (Itt K a) ds where
  go := fun i H x hi => by
    obtain ⟨v, hv, _⟩ := r.get (List.getElem?_eq_getElem hi)
    exact ⟨vs, v, x.sqT h, hv⟩
  yld := fun i H y H' d x hy hd => by
    obtain ⟨e, q⟩ := hy
    subst e
    obtain ⟨v, hv, rd⟩ := r.get hd
    have := q vs (x.sqT h)
    rw [hv] at this; cases this
    exact ⟨Same.refl _, .inl rfl, rd.ext x⟩
  stop := fun i H x hi => ⟨vs, x.sqT h, by rw [r.length]; exact hi⟩
  len := fun X pins σ H s hK I x => by
    subst hK
    obtain ⟨_, _, _, z⟩ := I.tuple (x.sqT h)
    rw [← r.length]; exact z
/-- over a list (frozen) -/
def iLst (Te : XE') : XL' := fun ρ P => Te ρ fun d => ∃ ds, d = .lst ds ∧ P ds
theorem di_list {tg : Expr} (he : DE X R e Te) : DI X R tg e (iLst Te) :=
  DI.mk' (pi_list he.pe) fun σ H H0 ρ P i0 iH sl h => ⟨H0, ρ, _, i0, iH, sl, h, fun v H' ⟨g, d, rd, ds, e, q⟩ => by
    subst e
    cases rd with
    | lst hz rs => exact ⟨_, rfl, ⟨_, hz.sq⟩, g, ds, itD_list hz rs, q⟩⟩
def iTp (Te : XE') : XL' := fun ρ P => Te ρ fun d => ∃ ds, d = .tup ds ∧ P ds
theorem di_tup {tg : Expr} (he : DE X R e Te) : DI X R tg e (iTp Te) :=
  DI.mk' (pi_tup he.pe) fun σ H H0 ρ P i0 iH sl h => ⟨H0, ρ, _, i0, iH, sl, h, fun v H' ⟨g, d, rd, ds, e, q⟩ => by
    subst e
    cases rd with
    | tup hz rs => exact ⟨_, rfl, ⟨_, hz⟩, g, ds, itD_tup hz rs, q⟩⟩
/-- the ints lo, lo + 1, .. -/
def upTo (lo : Int) (n : Nat) : List D := (List.range n).map fun (i : Nat) => .int (lo + (i : Nat))
theorem itD_range {K : PySem.W.Frag} {H1 : Hp} (lo : Int) (n : Nat) (hz : n ≤ sizeLine) : ItD K R H1 (Itr lo n) (upTo lo n) where
  go := fun i H x hi => by
    have : i < n := by simpa [upTo] using hi
    exact this
  yld := fun i H y H' d x hy hd => by
    obtain ⟨e, q⟩ := hy
    subst e
    have hi : i < n := by
      by_cases z : i < n
      · exact z
      · rw [List.getElem?_eq_none (by simpa [upTo] using z)] at hd; cases hd
    have : d = .int (lo + i) := by
      simp [upTo, hi] at hd
      exact hd.symm
    subst this
    rw [q]
    exact ⟨Same.refl _, .inl rfl, .int _⟩
  stop := fun i H x hi => by
    have : n ≤ i := by simpa [upTo] using hi
    exact this
  len := fun _ _ _ _ _ _ _ _ => by simpa [upTo] using hz
def iRg1 (Ta : XL') : XL' := fun ρ P => Ta ρ fun ds => ∃ j : Int, ds = [.int j] ∧ -(2 ^ 62) ≤ j ∧ j ≤ 1000000 ∧ P (upTo 0 j.toNat)
theorem di_range1 {tg a : Expr} {Ta : XL'} {p pos : Pos} (hg : Gl X "range") (hm : X.mg "range" = none) (ha : DA X R [a] Ta) (hs : starEach [a] X.env = [(false, eval a X.env)] := by rfl) : DI X R tg (.Call (.Name "range" p) [a] [] pos) (iRg1 Ta) :=
  DI.mk' (pi_range1 hg hm ha.pa hs) fun σ H H0 ρ P i0 iH sl h => ⟨H0, ρ, _, i0, iH, sl, h, fun vs H' ⟨g, ds, r, j, e, h1, h2, q⟩ => by
    subst e
    cases r with
    | cons r1 rr =>
      cases rr
      cases r1
      exact ⟨j, rfl, h1, by omega, g, _, itD_range 0 j.toNat (by rw [sizeLine_eq]; omega), q⟩⟩
def iRg2 (Ta : XL') : XL' := fun ρ P => Ta ρ fun ds => ∃ i j : Int, ds = [.int i, .int j] ∧ (-1000000 ≤ i ∧ i ≤ 1000000 ∧ -(2 ^ 62) ≤ j ∧ j ≤ 1000000) ∧ P (upTo i (j - i).toNat)
theorem di_range2 {tg a b : Expr} {Ta : XL'} {p pos : Pos} (hg : Gl X "range") (hm : X.mg "range" = none) (ha : DA X R [a, b] Ta) (hs : starEach [a, b] X.env = [(false, eval a X.env), (false, eval b X.env)] := by rfl) (hs2 : starEach [b] X.env = [(false, eval b X.env)] := by rfl) : DI X R tg (.Call (.Name "range" p) [a, b] [] pos) (iRg2 Ta) :=
  DI.mk' (pi_range2 hg hm ha.pa hs hs2) fun σ H H0 ρ P i0 iH sl h => ⟨H0, ρ, _, i0, iH, sl, h, fun vs H' ⟨g, ds, r, i, j, e, h1, q⟩ => by
    subst e
    cases r with
    | cons r1 rr =>
      cases rr with
      | cons r2 rr =>
        cases rr
        cases r1
        cases r2
        exact ⟨i, j, rfl, by omega, g, _, itD_range i (j - i).toNat (by rw [sizeLine_eq]; omega), q⟩⟩
/-- the signs of a text -/
def signs (s : List Nat) : List D := s.map fun c => .str [c]
theorem itD_str {K : PySem.W.Frag} {H1 : Hp} (z : List Nat) (hz : z.length ≤ sizeLine) : ItD K R H1 (Its (mkS z)) (signs z) where
  go := fun i H x hi => by
    have : i < z.length := by simpa [signs] using hi
    simpa [Its] using this
  yld := fun i H y H' d x hy hd => by
    obtain ⟨e, c, hc, q⟩ := hy
    subst e
    have hc' : z[i]? = some c := by simpa using hc
    have : d = .str [c] := by
      simp [signs, hc'] at hd
      exact hd.symm
    subst this
    rw [q]
    exact ⟨Same.refl _, .inl rfl, .str [c]⟩
  stop := fun i H x hi => by
    have : z.length ≤ i := by simpa [signs] using hi
    simpa [Its] using this
  len := fun _ _ _ _ _ _ _ _ => by simpa [signs] using hz
def iSt (Te : XE') : XL' := fun ρ P => Te ρ fun d => ∃ z, d = .str z ∧ z.length ≤ 1000000 ∧ P (signs z)
theorem di_str {tg : Expr} (he : DE X R e Te) : DI X R tg e (iSt Te) :=
  DI.mk' (pi_str he.pe) fun σ H H0 ρ P i0 iH sl h => ⟨H0, ρ, _, i0, iH, sl, h, fun v H' ⟨g, d, rd, z, e, hz, q⟩ => by
    subst e
    cases rd
    exact ⟨mkS z, rfl, g, _, itD_str z (by rw [sizeLine_eq]; omega), q⟩⟩
/-- pairs of a place and an item -/
def numd : Nat → List D → List D
  | _, [] => []
  | n, d :: ds => .tup [.int n, d] :: numd (n + 1) ds
theorem numd_get : ∀ (n : Nat) (ds : List D) (i : Nat), (numd n ds)[i]? = (ds[i]?).map fun d => .tup [.int (n + i : Nat), d]
  | _, [], i => by simp [numd]
  | n, d :: ds, 0 => by simp [numd]
  | n, d :: ds, i + 1 => by
    simp only [numd, List.getElem?_cons_succ]
    rw [numd_get (n + 1) ds i]
    congr 1
    funext d
    rw [show n + 1 + i = n + (i + 1) by omega]
theorem numd_len : ∀ (n : Nat) (ds : List D), (numd n ds).length = ds.length
  | _, [] => rfl
  | n, d :: ds => by simp [numd, numd_len (n + 1) ds]
theorem itD_enum {K : PySem.W.Frag} {H1 : Hp} {a : Addr} {vs : List V} {ds : List D} (h : FzL K H1 a vs) (r : RepL K H1 vs ds) : ItD K R H1 (Ite K a) (numd 0 ds) where
  go := fun i H x hi => by
    have e := (x.fzL h).sq
    obtain ⟨v, hv, _⟩ := r.get (List.getElem?_eq_getElem (by rw [numd_len] at hi; exact hi))
    exact ⟨vs, v, e, hv⟩
  yld := fun i H y H' d x hy hd => by
    obtain ⟨T, v, e1, n, e2, q⟩ := hy
    subst e1; subst e2
    have e := (x.fzL h).sq
    have hv := q vs (e)
    rw [numd_get] at hd
    cases hq : ds[i]? with
    | none => rw [hq] at hd; cases hd
    | some d' =>
      rw [hq] at hd
      have ed : d = .tup [.int (0 + i : Nat), d'] := (Option.some.inj hd).symm
      subst ed
      obtain ⟨v', hv', rd⟩ := r.get hq
      rw [hv] at hv'; cases hv'
      have s1 : Same H (upd H T (.tup [.int (i : Nat), v])) := fun b o e => by rw [upd_ne (ne_of_none e n)]; exact e
      have x2 : Ext H (upd H T (.tup [.int (i : Nat), v])) := ⟨fun b xs e => s1 _ _ e, fun b o u e => s1 _ _ e⟩
      refine ⟨s1, .inr ⟨T, _, n, rfl⟩, .tup (SqT.of upd_same) (.cons ?_ (.cons ((rd.ext x).ext x2) .nil))⟩
      rw [Nat.zero_add]
      exact .int _
  stop := fun i H x hi => by
    have e := (x.fzL h).sq
    exact ⟨vs, e, by rw [r.length]; rw [numd_len] at hi; exact hi⟩
  len := fun X pins σ H s hK I x => by
    have e := (x.fzL h).sq
    obtain ⟨_, _, _, z⟩ := I.list (hK ▸ e)
    rw [numd_len, ← r.length]; exact z
def iEn (Ta : XL') : XL' := fun ρ P => Ta ρ fun xs => ∃ ds, xs = [.lst ds] ∧ P (numd 0 ds)
theorem di_enum {a : Expr} {Ta : XL'} {p pos tpos : Pos} {elts : List Expr} {kk : Nat} (hg : Gl X "enumerate") (hm : X.mg "enumerate" = none) (ha : DA X R [a] Ta) (hs : starEach [a] X.env = [(false, eval a X.env)] := by rfl) : DI X R (.Tuple elts kk tpos) (.Call (.Name "enumerate" p) [a] [] pos) (iEn Ta) :=
  DI.mk' (pi_enum hg hm ha.pa hs) fun σ H H0 ρ P i0 iH sl h => ⟨H0, ρ, _, i0, iH, sl, h, fun vs H' ⟨g, xs, r, ds, e, q⟩ => by
    subst e
    cases r with
    | cons r1 rr =>
      cases rr
      cases r1 with
      | lst hz rs =>
        exact ⟨_, _, rfl, hz.sq, g, _, itD_enum hz rs, q⟩⟩
end

/-! ### for -/
section
variable {X : Cx} {R : Res}
def forGo (B : D → En → (En → Prop) → Prop) (body : XS) (N : Dn) : List D → En → Prop
  | [], ρ => N.nx ρ
  | d :: ds, ρ => B d ρ fun ρ' => body { nx := forGo B body N ds, rt := N.rt, bk := N.nx, ct := forGo B body N ds } ρ'
def dFor (Ti : XL') (B : D → En → (En → Prop) → Prop) (body : XS) : XS := fun N ρ => Ti ρ fun ds => forGo B body N ds ρ
theorem same_go {H H' H0 : Hp} (i0 : R.inv H0) (g : Go R H0 H) (s : Same H H') : Go R H H' := Go.of_same s (g.inv i0)
def toG (X : Cx) (R : Res) (B : D → En → (En → Prop) → Prop) (is : List Nat) : TG := fun v σ H Q => ∃ (H0 : Hp) (ρ : En) (d : D) (P : En → Prop), R.inv H0 ∧ Go R H0 H ∧ Sl X.K H0 H σ ρ ∧ Rep X.K H v d ∧ B d ρ P ∧ ∀ σ', LN X.K R H0 H P σ' H → Kept is σ σ' → Q σ' H
theorem DG.pg {tg : Expr} {B : D → En → (En → Prop) → Prop} {is : List Nat} (h : DG X R tg B is) : PG X tg (toG X R B is) := ⟨fun pins s σ H v u Q I rv ⟨H0, ρ, d, P, i0, g, sl, r, hP, k⟩ => thn (h.run pins s σ H H0 ρ v u d P I i0 g sl rv r hP) fun _ _ ⟨σ', I', q, kp⟩ => ⟨σ', H, I', k _ q kp⟩⟩
theorem new_go {H H' H0 : Hp} (i0 : R.inv H0) (g : Go R H0 H) (h : H' = H ∨ ∃ p o, H p = none ∧ H' = upd H p o) : Go R H H' := by
  rcases h with e | ⟨p, o, n, e⟩
  · rw [e]; exact Go.refl _
  · rw [e]; exact Go.new n (g.inv i0)
theorem ds_for {tg iter : Expr} {body : List Stmt} {Ti : XL'} {B : D → En → (En → Prop) → Prop} {Tb : XS} {pos : Pos} (hp : PassesOwn (model X.prog X.w) X.A X.env X.xe) (hc : X.calm = true) {is : List Nat} (hi : DI X R tg iter Ti) (hg : DG X R tg B is) (hb : DSs X R body Tb)
    (hs : ∀ x, foldedSetIterable iter X.env x = pure x := by intro _; rfl) : DS X R (.For tg iter body [] pos) (dFor Ti B Tb) :=
  DS.mk' (ps_for hp hc hi.pi hg.pg hb.pss hs) fun σ H H0 ρ N i0 g sl h => ⟨H0, ρ, _, i0, g.inv i0, sl, h, fun J H1 ds g1 id _ q => by
    have gi := g.inv i0
    have x1 := g1.ext gi
    refine ⟨fun i m σ' H' => m = ds.length - i ∧ i ≤ ds.length ∧ LN X.K R H0 H1 (forGo B Tb N (ds.drop i)) σ' H', ⟨_, rfl, Nat.zero_le _, ρ, g.trans g1, Ext.refl _, sl.go i0 gi g1, q⟩, ?_⟩
    rintro i m σ' H' ⟨rfl, hi, ρ', g', x', sl', q'⟩
    by_cases hlt : i < ds.length
    · refine .inr ⟨id.go i H' x' hlt, fun σ2 H2 => LN X.K R H0 H1 (forGo B Tb N (ds.drop (i + 1))) σ2 H2, fun σ2 H2 n => ⟨_, by omega, rfl, hlt, n⟩, fun v H2 hy => ?_⟩
      have hd := List.getElem?_eq_getElem hlt
      obtain ⟨s2, hn, r⟩ := id.yld i H' v H2 _ x' hy hd
      have g2 := new_go i0 g' hn
      have gi' := g'.inv i0
      rw [List.drop_eq_getElem_cons hlt] at q'
      have x2 := g2.ext gi'
      refine ⟨H0, ρ', _, _, i0, g'.trans g2, sl'.go i0 gi' g2, r, q', fun σ3 ⟨ρ3, g3, x3, sl3, q3⟩ _ => ?_⟩
      have x13 : Ext H1 H2 := x'.trans (x2.trans x3)
      exact ⟨H0, ρ3, _, i0, g3, sl3, q3, fun _ _ z => z.ext x13, fun _ _ z => z, fun _ _ z => z.ext (x1.trans x13), fun _ _ z => z.ext x13⟩
    · have e : i = ds.length := by omega
      subst e
      rw [List.drop_length] at q'
      exact .inl ⟨id.stop _ H' x' (Nat.le_refl _), ρ', g', x1.trans x', sl', q'⟩⟩

/-! ### while: by a word and a measure -/
def dWhile (c : XB') (body : XS) : XS := fun N ρ => ∃ W : Nat → En → Prop, (∃ m, W m ρ) ∧ ∀ m ρ, W m ρ → c ρ fun b => if b = true then body { nx := fun ρ' => ∃ m', m' < m ∧ W m' ρ', rt := N.rt, bk := N.nx, ct := fun ρ' => ∃ m', m' < m ∧ W m' ρ' } ρ else N.nx ρ
theorem ds_while {c : Expr} {body : List Stmt} {Tc : XB'} {Tb : XS} {pos : Pos} (hp : PassesOwn (model X.prog X.w) X.A X.env X.xe) (hc : DT X R c Tc) (hb : DSs X R body Tb) : DS X R (.While c body [] pos) (dWhile Tc Tb) :=
  DS.mk' (ps_while hp hc.pt hb.pss) fun σ H H0 ρ N i0 g sl ⟨W, ⟨m0, w0⟩, turn⟩ => by
    refine ⟨fun m σ' H' => LN X.K R H0 H (fun ρ' => W m ρ') σ' H', ⟨m0, ρ, g, Ext.refl _, sl, w0⟩, fun m σ' H' ⟨ρ', g', x', sl', w'⟩ => ?_⟩
    refine ⟨H0, ρ', _, i0, g'.inv i0, sl', turn m ρ' w', fun b H1 ⟨g1, q⟩ => ?_⟩
    have x1 := g1.ext (g'.inv i0)
    cases b with
    | true =>
      refine ⟨fun σ2 H2 => LN X.K R H0 H (fun ρ2 => ∃ m', m' < m ∧ W m' ρ2) σ2 H2, fun σ2 H2 ⟨ρ2, g2, x2, sl2, m', hm, w2⟩ => ⟨m', hm, ρ2, g2, x2, sl2, w2⟩, ?_⟩
      exact ⟨H0, ρ', _, i0, g'.trans g1, sl'.go i0 (g'.inv i0) g1, q, fun _ _ z => z.ext (x'.trans x1), fun _ _ z => z, fun _ _ z => z.ext (x'.trans x1), fun _ _ z => z.ext (x'.trans x1)⟩
    | false => exact ⟨ρ', g'.trans g1, x'.trans x1, sl'.go i0 (g'.inv i0) g1, q⟩
end
end DL

namespace DL
open PySem PySem.Spec PyProof.Rows L2

/-! ### defs: as the hand layer's, the guards known -/
structure FnG (P : Program) (w : World) (K : PySem.W.Frag) (mg : Str → Option Value) (base : Heap) (CX : CXT) (k : Nat) (f : Addr) (fd : FuncData) (ps : List Str) (sp : Sp) : Prop where
  len : ∀ vs H Q E, sp vs H Q E → vs.length = ps.length
  run : ∀ (A : Around) (outer : List Env) (s : Shared) (H : Hp) (args : Args) (us : List Value) (vs : List V) (Q : VK) (E : XK), Room k A → A.guards = some [] → Env0 P w K mg base A outer s H → BindsTo s fd args (ps.zip us) → Vals vs us → sp vs H Q E →
    codeAny (model P w) A (.call (.ref f) args) (CR CX outer P w H s Q E) s
theorem FnG.mono {P : Program} {w : World} {K : PySem.W.Frag} {mg : Str → Option Value} {base : Heap} {CX : CXT} {j k : Nat} {f : Addr} {fd : FuncData} {ps : List Str} {sp : Sp} (F : FnG P w K mg base CX j f fd ps sp) (h : j ≤ k) :
    FnG P w K mg base CX k f fd ps sp := ⟨F.len, fun A outer s H args us vs Q E hr => F.run A outer s H args us vs Q E (hr.mono h)⟩
theorem FnG.imp {P : Program} {w : World} {K : PySem.W.Frag} {mg : Str → Option Value} {base : Heap} {CX : CXT} {k : Nat} {f : Addr} {fd : FuncData} {ps : List Str} {sp sp' : Sp} (F : FnG P w K mg base CX k f fd ps sp)
    (h : ∀ vs H Q E, sp' vs H Q E → sp vs H Q E) : FnG P w K mg base CX k f fd ps sp' :=
  ⟨fun vs H Q E q => F.len vs H Q E (h _ _ _ _ q), fun A outer s H args us vs Q E hr hg he hb hv hs => F.run A outer s H args us vs Q E hr hg he hb hv (h _ _ _ _ hs)⟩
theorem FnG.of {P : Program} {w : World} {K : PySem.W.Frag} {mg : Str → Option Value} {base : Heap} {CX : CXT} {k : Nat} {f : Addr} {fd : FuncData} {ps : List Str} {sp : Sp} (F : FnOk P w K mg base CX k f fd ps sp) : FnG P w K mg base CX k f fd ps sp :=
  ⟨F.len, fun A outer s H args us vs Q E hr _ => F.run A outer s H args us vs Q E hr⟩
theorem fng_of {CX : CXT} {P : Program} {w : World} {K : PySem.W.Frag} {mg : Str → Option Value} {base : Heap} {k : Nat} {f : Addr} {name qual : Str} {params : Arguments} {body : List Stmt} {scope : Scope} {dV kV doc pm cdv ct oc : Value} {an od : Option Addr}
    {osl : Array (Option Value)} {N ps : List Str} {sp : Sp} (lk : K.lookup f = some ⟨oc, od, .func (PySem.W.fnOf name qual params body scope dV kV doc pm an cdv ct), osl⟩) (hcd : PySem.W.codeIn K cdv qual = true) (S : FnScope N ps scope)
    (len : ∀ vs H Q E, sp vs H Q E → vs.length = ps.length)
    (hbody : ∀ (A : Around) (outer : List Env) (s : Shared) (H : Hp) (vs : List V) (Q : VK) (E : XK), Room k (A.deeper (envOfC qual scope s.heap.objs.size f cdv)) → A.guards = some [] → sp vs H Q E →
      ∃ t, PSs (cxOf CX P w K mg base N qual scope f cdv A outer s H E) body t ∧ t { nx := fun _ H' => Q .non H', rt := Q } (start N vs) H) :
    FnG P w K mg base CX (k + 1) f (PySem.W.fnOf name qual params body scope dV kV doc pm an cdv ct) ps sp := by
  refine ⟨len, fun A outer s H args us vs Q E hr hgd e0 hb r hsp => ?_⟩
  have hl := len _ _ _ _ hsp
  have KX : K.In s.heap := e0.mod.kin.keeps fun b o e => (e0.bs b o e).1
  have lim : s.heap.NoLimit := e0.mod.nolimit.keeps fun b o e => (e0.bs b o e).1
  have hkind : ∀ y ∈ ps.zip us, scope.names.lookup y.1 = some .local ∨ (scope.names.lookup y.1 = some .cell ∧ ((cellsFrom (s.heap.objs.size + 1) scope.names []).lookup y.1).isSome = true) := fun ⟨n, v⟩ hy => by
    rcases S.par n (List.of_mem_zip hy).1 with q | q
    · exact .inl q
    · exact .inr ⟨q, PySem.W.cellsFrom_some _ _ _ (.inl q)⟩
  refine codeAny_call_function hr.depth (KX _ _ lk) rfl S.co S.gen rfl (PySem.W.codeRec_of KX hcd) (hb _ _ _ _ ?_)
  refine wpAny_newFunctionEnv_cells S.kind hkind fun env he s1 x => ?_
  subst he
  refine ⟨lim.keeps x.toInCall.keep, codeAny_func ?_⟩
  obtain ⟨t, ht, hq⟩ := hbody A outer s H vs Q E (hr.deeper _) hgd hsp
  have I : Inv (cxOf CX P w K mg base N qual scope f cdv A outer s H E) [] (start N vs) H s1 := inv_start S hr.hd e0 hl r x
  refine wpAny_mono (ht.run [] s1 (start N vs) H _ I hq) (fun fl s' hs => ?_) fun e s' hs => hs
  have fin : ∀ {σ' : St} {H' : Hp} {v : V} {u : Value}, Inv (cxOf CX P w K mg base N qual scope f cdv A outer s H E) [] σ' H' s' → RelV v u → Q v H' → CE outer P w H s Q u s' :=
    fun {σ' H' v u} J rv q => ⟨v, H', J.os, J.bare, J.base, J.hok, rv, q⟩
  cases fl with
  | ret u =>
    obtain ⟨v, σ', H', J, rv, q⟩ := hs
    exact fin J rv q
  | next =>
    obtain ⟨σ', H', J, q⟩ := hs
    exact fin (v := V.non) (u := Value.none) J rfl q
  | brk =>
    obtain ⟨_, _, _, q⟩ := hs
    exact False.elim q
  | cont =>
    obtain ⟨_, _, _, q⟩ := hs
    exact False.elim q
section
variable {X : Cx} {CX : CXT} {k : Nat} {f : Addr} {fd : FuncData} {ps ks : List Str} {sp : Sp} {dvs : List V} {ds : List Value} {E : XK} {x : Str} {p pos : Pos} {e : Expr} {es : List Expr} {t : TA}
theorem run_fng {pins : List (Addr × Obj)} {σ : St} {H : Hp} {s : Shared} {Q : VK} {us : List Value} {vs : List V} (F : FnG X.prog X.w X.K X.mg X.base CX k f fd ps sp) (hr : Room k X.A) (hgd : X.A.guards = some []) (hb : Binds X.K fd ps ds) (hd : Vals dvs ds) (hx : Passes CX X E)
    (I : Inv X pins σ H s) (r : Vals vs us) (h : sp (vs ++ dvs) H Q E) : wpAny (model X.prog X.w) X.A (call (.ref f) us) (EP X pins σ Q) X.xe s := by
  have r2 : Vals (vs ++ dvs) (us ++ ds) := r.append hd
  have hl : (us ++ ds).length = ps.length := by rw [← r2.length]; exact F.len _ _ _ _ h
  refine wpAny_call (codeAny_mono (F.run X.A X.stack s H ⟨us, []⟩ (us ++ ds) (vs ++ dvs) Q E hr hgd I.env0 (hb s us I.kIn hl) r2 h) fun r s' hq => ?_)
  cases r with
  | error e => exact hx pins σ H s e s' I hq
  | ok fl =>
    cases fl with
    | ret u => exact I.after hq
    | next => exact False.elim hq
    | brk => exact False.elim hq
    | cont => exact False.elim hq
theorem pe_callG (F : FnG X.prog X.w X.K X.mg X.base CX k f fd ps sp) (hr : Room k X.A) (hgd : X.A.guards = some []) (hg : Gl X x) (hm : X.mg x = some (.ref f)) (hk : PySem.W.keepIn X.K (.ref f) = true) (hb : Binds X.K fd ps ds) (hd : Vals dvs ds) (hx : Passes CX X E)
    (ha : PA X (e :: es) t) (hdb : (x == ("__debug__" : Str)) = false := by decide) (he : starEach (e :: es) X.env = (false, eval e X.env) :: starEach es X.env := by rfl) (hpl : (backTo pos (starEach es X.env)).any (·.1) = false := by rfl) :
    PE X (.Call (.Name x p) (e :: es) [] pos) (tCall sp dvs E t) := by
  refine ⟨fun pins s σ H Q I h => ?_⟩
  refine wpAny_Call_Name_kw (ld_glob I hg hm ?_ hdb)
  refine PySem.W.callWith_K (h₀ := X.base) I.ok.mod.kin hk (thn (ha.run pos pins s σ H _ I h) fun us s1 ⟨vs, H1, I1, r, q⟩ => ⟨I1.kIn, ?_⟩) he hpl
  exact run_fng F hr hgd hb hd hx I1 r q
theorem pe_callG0 (F : FnG X.prog X.w X.K X.mg X.base CX k f fd ps sp) (hr : Room k X.A) (hgd : X.A.guards = some []) (hg : Gl X x) (hm : X.mg x = some (.ref f)) (hk : PySem.W.keepIn X.K (.ref f) = true) (hb : Binds X.K fd ps ds) (hd : Vals dvs ds) (hx : Passes CX X E)
    (hdb : (x == ("__debug__" : Str)) = false := by decide) : PE X (.Call (.Name x p) [] [] pos) (tCall sp dvs E tNil) := by
  refine ⟨fun pins s σ H Q I h => ?_⟩
  refine wpAny_Call_Name_kw (ld_glob I hg hm ?_ hdb)
  exact PySem.W.callWith_K0 I.kIn hk (run_fng (us := []) F hr hgd hb hd hx I .nil h)
/-! keywords, in the parameters' order behind n positional ones -/
def KBd (K : PySem.W.Frag) (fd : FuncData) (ps : List Str) (n : Nat) (ks : List Str) : Prop :=
  ∀ (s : Shared) (us ws : List Value), K.In s.heap → us.length = n → ws.length = ks.length → BindsTo s fd ⟨us, ks.zip ws⟩ (ps.zip (us ++ ws))
theorem run_fngk {pins : List (Addr × Obj)} {σ : St} {H : Hp} {s : Shared} {Q : VK} {us ws : List Value} {vs zs : List V} {n : Nat} (F : FnG X.prog X.w X.K X.mg X.base CX k f fd ps sp) (hr : Room k X.A) (hgd : X.A.guards = some []) (hb : KBd X.K fd ps n ks) (hx : Passes CX X E)
    (I : Inv X pins σ H s) (r : Vals vs us) (rz : Vals zs ws) (hn : vs.length = n) (hk : zs.length = ks.length) (h : sp (vs ++ zs) H Q E) : wpAny (model X.prog X.w) X.A (call (.ref f) us (ks.zip ws)) (EP X pins σ Q) X.xe s := by
  refine wpAny_call (codeAny_mono (F.run X.A X.stack s H ⟨us, ks.zip ws⟩ (us ++ ws) (vs ++ zs) Q E hr hgd I.env0 (hb s us ws I.kIn (by rw [← r.length]; exact hn) (by rw [← rz.length]; exact hk)) (r.append rz) h) fun r s' hq => ?_)
  cases r with
  | error e => exact hx pins σ H s e s' I hq
  | ok fl =>
    cases fl with
    | ret u => exact I.after hq
    | next => exact False.elim hq
    | brk => exact False.elim hq
    | cont => exact False.elim hq
variable {kws : List Keyword} {tk : TA}
def tCallKd (sp : Sp) (n m : Nat) (E : XK) (t tk : TA) : TE := fun σ H Q => t σ H fun vs H1 => tk σ H1 fun zs H2 => vs.length = n ∧ zs.length = m ∧ sp (vs ++ zs) H2 Q E
theorem pe_callGK {n : Nat} (F : FnG X.prog X.w X.K X.mg X.base CX k f fd ps sp) (hr : Room k X.A) (hgd : X.A.guards = some []) (hg : Gl X x) (hm : X.mg x = some (.ref f)) (hk : PySem.W.keepIn X.K (.ref f) = true) (hb : KBd X.K fd ps n ks) (hx : Passes CX X E)
    (ha : PA X (e :: es) t) (hkw : PK X kws tk) (hall : (backToKw pos (keywordEach kws X.env)).all (·.1.isSome) = true := by rfl) (hks : (backToKw pos (keywordEach kws X.env)).filterMap (·.1) = ks := by rfl)
    (hdb : (x == ("__debug__" : Str)) = false := by decide) (he : starEach (e :: es) X.env = (false, eval e X.env) :: starEach es X.env := by rfl)
    (hpl : ((backTo pos (starEach (e :: es) X.env)).any (·.1) || (backToKw pos (keywordEach kws X.env)).any (·.1.isNone)) = false := by rfl) :
    PE X (.Call (.Name x p) (e :: es) kws pos) (tCallKd sp n ks.length E t tk) := by
  refine ⟨fun pins s σ H Q I h => ?_⟩
  refine wpAny_Call_Name_kw (ld_glob I hg hm ?_ hdb)
  refine PySem.W.callWith_KW (h₀ := X.base) I.ok.mod.kin hk hall (thn (ha.run pos pins s σ H _ I h) fun us s1 ⟨vs, H1, I1, r, q⟩ => ?_) hpl he
  refine thn (hkw.run pos pins s1 σ H1 _ I1 q) fun ws s2 ⟨zs, H2, I2, rz, q1, q2, q3⟩ => ⟨I2.kIn, ?_⟩
  rw [hks]
  exact run_fngk F hr hgd hb hx I2 r rz q1 q2 q3
theorem pe_callGK0 (F : FnG X.prog X.w X.K X.mg X.base CX k f fd ps sp) (hr : Room k X.A) (hgd : X.A.guards = some []) (hg : Gl X x) (hm : X.mg x = some (.ref f)) (hk : PySem.W.keepIn X.K (.ref f) = true) (hb : KBd X.K fd ps 0 ks) (hx : Passes CX X E)
    (hkw : PK X kws tk) (hall : (backToKw pos (keywordEach kws X.env)).all (·.1.isSome) = true := by rfl) (hks : (backToKw pos (keywordEach kws X.env)).filterMap (·.1) = ks := by rfl)
    (hdb : (x == ("__debug__" : Str)) = false := by decide)
    (hpl : ((backTo pos (starEach [] X.env)).any (·.1) || (backToKw pos (keywordEach kws X.env)).any (·.1.isNone)) = false := by rfl) :
    PE X (.Call (.Name x p) [] kws pos) (tCallKd sp 0 ks.length E tNil tk) := by
  refine ⟨fun pins s σ H Q I h => ?_⟩
  refine wpAny_Call_Name_kw (ld_glob I hg hm ?_ hdb)
  refine PySem.W.callWith_KW0 (h₀ := X.base) I.ok.mod.kin hk hall (thn (hkw.run pos pins s σ H _ I h) fun ws s2 ⟨zs, H2, I2, rz, q1, q2, q3⟩ => ⟨I2.kIn, ?_⟩) hpl
  rw [hks]
  exact run_fngk (us := []) F hr hgd hb hx I2 .nil rz q1 q2 q3
end

/-! ### a def's promise on data -/
abbrev Fn := List D → (D → Prop) → Prop
def spD (K : PySem.W.Frag) (R : Res) (F : Fn) : Sp := fun vs H Q _ => R.inv H ∧ ∃ ds Q', RepL K H vs ds ∧ F ds Q' ∧ ∀ v H', LQ K R H Q' v H' → Q v H'
def st0 (n : Nat) (ds : List D) : En := ds.map .val ++ List.replicate (n - ds.length) .no
theorem sl_start {K : PySem.W.Frag} {H : Hp} {N : List Str} {vs : List V} {ds : List D} (r : RepL K H vs ds) : Sl K H H (start N vs) (st0 N.length ds) := by
  have hl := r.length
  refine ⟨by simp [L2.start, st0, hl], fun i sl e => ?_, fun i j es fs a e1 e2 e3 e4 => ?_⟩
  · unfold st0 at e
    unfold L2.start
    by_cases hi : i < ds.length
    · rw [List.getElem?_append_left (by simpa using hi), List.getElem?_map, List.getElem?_eq_getElem hi] at e
      have e' : sl = .val ds[i] := (Option.some.inj e).symm
      subst e'
      obtain ⟨v, hv, rd⟩ := r.get (List.getElem?_eq_getElem hi)
      exact ⟨some v, by rw [List.getElem?_append_left (by simpa [hl] using hi), List.getElem?_map, hv]; rfl, .val rd⟩
    · rw [List.getElem?_append_right (by simpa using hi), List.getElem?_replicate] at e
      split at e
      · rename_i hlt
        cases e
        refine ⟨Option.none, ?_, .no⟩
        rw [List.getElem?_append_right (by simpa [hl] using hi), List.getElem?_replicate, if_pos (by simpa [hl] using hlt)]
      · cases e
  · unfold st0 at e1
    by_cases hi : i < ds.length
    · rw [List.getElem?_append_left (by simpa using hi), List.getElem?_map] at e1
      cases q : ds[i]? with
      | none => rw [q] at e1; cases e1
      | some _ => rw [q] at e1; cases e1
    · rw [List.getElem?_append_right (by simpa using hi), List.getElem?_replicate] at e1
      split at e1 <;> cases e1
section
variable {P : Program} {w : World} {K : PySem.W.Frag} {mg : Str → Option Value} {base : Heap}
/-- THE RULE for a def that lets no exception out -/
theorem dfn_of {x qual : Str} {st : Stmt} {f : Addr} {fd : FuncData} {N ps : List Str} {k : Nat} {F : Fn} {R : Res} (U : L2.Fun K x qual st f fd) (S : FnScope N ps (defScope st)) (len : ∀ ds Q, F ds Q → ds.length = ps.length)
    (hbody : ∀ (cdv : Value) (A : Around) (outer : List Env) (s : Shared) (H : Hp) (E : XK), Room k (A.deeper (envOfC qual (defScope st) s.heap.objs.size f cdv)) → A.guards = some [] →
      ∃ T, DSs (cxOf CX0 P w K mg base N qual (defScope st) f cdv A outer s H E).nox R (defBody st) T ∧ ∀ ds Q, F ds Q → T { nx := fun _ => Q .non, rt := Q } (st0 N.length ds)) : FnG P w K mg base CX0 (k + 1) f fd ps (spD K R F) := by
  obtain ⟨oc, od, kV, doc, pm, an, cdv, ct, osl, rfl, lk, hcd⟩ := U.ex
  refine fng_of lk hcd S (fun vs H Q E ⟨_, ds, Q', r, h, _⟩ => by rw [r.length]; exact len ds Q' h) fun A outer s H vs Q E hr hgd hsp => ?_
  obtain ⟨T, h, hT⟩ := hbody cdv A outer s H E hr hgd
  obtain ⟨iH, ds, Q', r, hF, k⟩ := hsp
  refine ⟨_, h.pss.nox, H, st0 N.length ds, _, iH, Go.refl H, sl_start r, hT ds Q' hF, fun σ' H' ⟨ρ', g, x, sl, q⟩ => k _ _ ⟨g, _, .non, q⟩, k, fun _ _ ⟨_, _, _, _, q⟩ => q, fun _ _ ⟨_, _, _, _, q⟩ => q⟩
end
section
variable {X : Cx} {R : Res} {k : Nat} {f : Addr} {fd : FuncData} {ps ks : List Str} {x : Str} {p pos : Pos} {e : Expr} {es : List Expr} {T Tk : XL'} {F : Fn} {kws : List Keyword}
def dCall (F : Fn) (T : XL') : XE' := fun ρ Q => T ρ fun ds => F ds Q
theorem de_call (G : FnG X.prog X.w X.K X.mg X.base CX0 k f fd ps (spD X.K R F)) (hr : Room k X.A) (hgd : X.A.guards = some []) (hg : Gl X x) (hm : X.mg x = some (.ref f)) (hk : PySem.W.keepIn X.K (.ref f) = true) (hb : Binds X.K fd ps [])
    (ha : DA X R (e :: es) T) (hdb : (x == ("__debug__" : Str)) = false := by decide) (he : starEach (e :: es) X.env = (false, eval e X.env) :: starEach es X.env := by rfl) (hpl : (backTo pos (starEach es X.env)).any (·.1) = false := by rfl) :
    DE X R (.Call (.Name x p) (e :: es) [] pos) (dCall F T) :=
  DE.mk' (pe_callG G hr hgd hg hm hk hb .nil pass0 ha.pa hdb he hpl) fun σ H H0 ρ Q i0 iH sl h => ⟨H0, ρ, _, i0, iH, sl, h, fun vs H1 ⟨g, ds, r, q⟩ => ⟨g.inv iH, ds, Q, by rw [List.append_nil]; exact r, q, LQ.go g⟩⟩
theorem de_call0 (G : FnG X.prog X.w X.K X.mg X.base CX0 k f fd ps (spD X.K R F)) (hr : Room k X.A) (hgd : X.A.guards = some []) (hg : Gl X x) (hm : X.mg x = some (.ref f)) (hk : PySem.W.keepIn X.K (.ref f) = true) (hb : Binds X.K fd ps [])
    (hdb : (x == ("__debug__" : Str)) = false := by decide) : DE X R (.Call (.Name x p) [] [] pos) (fun ρ Q => F [] Q) :=
  DE.mk' (pe_callG0 G hr hgd hg hm hk hb .nil pass0 hdb) fun σ H H0 ρ Q i0 iH sl h => ⟨iH, [], Q, .nil, h, fun _ _ z => z⟩
/-- the keywords' values -/
structure DK (X : Cx) (R : Res) (kws : List Keyword) (T : XL') : Prop where
  run : ∀ (pos : Pos) (pins : List (Addr × Obj)) (s : Shared) (σ : St) (H H0 : Hp) (ρ : En) (Q : List D → Prop), Inv X pins σ H s → R.inv H0 → R.inv H → Sl X.K H0 H σ ρ → T ρ Q → wpAny (model X.prog X.w) X.A (evalAll ((backToKw pos (keywordEach kws X.env)).map (·.2))) (AP X pins σ (LA X.K R H Q)) X.xe s
theorem DK.pk (h : DK X R kws T) : PK X kws (toA X R T) := ⟨fun pos pins s σ H Q I ⟨H0, ρ, Q', i0, iH, sl, hT, k⟩ => thn (h.run pos pins s σ H H0 ρ Q' I i0 iH sl hT) fun _ _ q => AP.imp q k⟩
theorem dk_nil : DK X R [] dNil := ⟨fun _ _ _ _ H _ _ Q I _ _ _ h => wpAny_evalAll_nil ⟨[], H, I, .nil, Go.refl H, [], .nil, h⟩⟩
theorem dk_cons {Ta : XE'} {nm : Option Str} {kpos : Pos} (ha : DE X R e Ta) (hr : DK X R kws Tk) : DK X R (⟨nm, e, kpos⟩ :: kws) (dCons Ta Tk) := by
  refine ⟨fun pos pins s σ H H0 ρ Q I i0 iH sl h => ?_⟩
  show wpAny _ _ (evalAll ((do let v ← eval e X.env; standAt pos; pure v) :: (backToKw pos (keywordEach kws X.env)).map (·.2))) _ _ s
  refine wpAny_evalAll_cons (wpAny_bind (thn (ha.run pins s σ H H0 ρ _ I i0 iH sl h) fun u s1 ⟨x, H1, I1, r1, g1, d, rd, q1⟩ => wpAny_bind (wpAny_standAt (wpAny_pure ?_))))
  refine thn (hr.run pos pins s1 σ H1 H0 ρ _ I1 i0 (g1.inv iH) (sl.go i0 iH g1) q1) fun us s2 ⟨xs, H2, I2, r2, g2, ds, rds, q2⟩ => ?_
  exact ⟨x :: xs, H2, I2, .cons r1 r2, g1.trans g2, d :: ds, .cons (rd.ext (g2.ext (g1.inv iH))) rds, q2⟩
def dCallK (F : Fn) (n m : Nat) (T Tk : XL') : XE' := fun ρ Q => T ρ fun ds => Tk ρ fun es => ds.length = n ∧ es.length = m ∧ F (ds ++ es) Q
theorem de_callK {n : Nat} (G : FnG X.prog X.w X.K X.mg X.base CX0 k f fd ps (spD X.K R F)) (hr : Room k X.A) (hgd : X.A.guards = some []) (hg : Gl X x) (hm : X.mg x = some (.ref f)) (hk : PySem.W.keepIn X.K (.ref f) = true) (hb : KBd X.K fd ps n ks)
    (ha : DA X R (e :: es) T) (hkw : DK X R kws Tk) (hall : (backToKw pos (keywordEach kws X.env)).all (·.1.isSome) = true := by rfl) (hks : (backToKw pos (keywordEach kws X.env)).filterMap (·.1) = ks := by rfl)
    (hdb : (x == ("__debug__" : Str)) = false := by decide) (he : starEach (e :: es) X.env = (false, eval e X.env) :: starEach es X.env := by rfl)
    (hpl : ((backTo pos (starEach (e :: es) X.env)).any (·.1) || (backToKw pos (keywordEach kws X.env)).any (·.1.isNone)) = false := by rfl) :
    DE X R (.Call (.Name x p) (e :: es) kws pos) (dCallK F n ks.length T Tk) :=
  DE.mk' (pe_callGK G hr hgd hg hm hk hb pass0 ha.pa hkw.pk hall hks hdb he hpl) fun σ H H0 ρ Q i0 iH sl h => ⟨H0, ρ, _, i0, iH, sl, h, fun vs H1 ⟨g, ds, r, q⟩ => ⟨H0, ρ, _, i0, g.inv iH, sl.go i0 iH g, q, fun zs H2 ⟨g2, es, r2, q1, q2, q3⟩ =>
    ⟨by rw [r.length]; exact q1, by rw [r2.length]; exact q2, g2.inv (g.inv iH), _, Q, (r.ext (g2.ext (g.inv iH))).append r2, q3, LQ.go (g.trans g2)⟩⟩⟩
theorem de_callK0 (G : FnG X.prog X.w X.K X.mg X.base CX0 k f fd ps (spD X.K R F)) (hr : Room k X.A) (hgd : X.A.guards = some []) (hg : Gl X x) (hm : X.mg x = some (.ref f)) (hk : PySem.W.keepIn X.K (.ref f) = true) (hb : KBd X.K fd ps 0 ks)
    (hkw : DK X R kws Tk) (hall : (backToKw pos (keywordEach kws X.env)).all (·.1.isSome) = true := by rfl) (hks : (backToKw pos (keywordEach kws X.env)).filterMap (·.1) = ks := by rfl)
    (hdb : (x == ("__debug__" : Str)) = false := by decide)
    (hpl : ((backTo pos (starEach [] X.env)).any (·.1) || (backToKw pos (keywordEach kws X.env)).any (·.1.isNone)) = false := by rfl) :
    DE X R (.Call (.Name x p) [] kws pos) (dCallK F 0 ks.length dNil Tk) :=
  DE.mk' (pe_callGK0 G hr hgd hg hm hk hb pass0 hkw.pk hall hks hdb hpl) fun σ H H0 ρ Q i0 iH sl h => ⟨H0, ρ, _, i0, iH, sl, h, fun zs H2 ⟨g2, es, r2, q1, q2, q3⟩ =>
    ⟨rfl, by rw [r2.length]; exact q2, g2.inv iH, _, Q, r2, q3, LQ.go g2⟩⟩
end
/-- binding by keywords -/
theorem Fun.kbinds {K : PySem.W.Frag} {x qual : Str} {st : Stmt} {f : Addr} {fd : FuncData} {ps ks : List Str} {n : Nat} (F : L2.Fun K x qual st f fd)
    (h : ∀ (kV doc pm : Value) (an : Option Addr) (cdv ct : Value) (us ws : List Value), us.length = n → ws.length = ks.length → bindArgs (PySem.W.fnOf x qual (defArgs st) (defBody st) (defScope st) .none kV doc pm an cdv ct) ⟨us, ks.zip ws⟩ = pure (ps.zip (us ++ ws))) : KBd K fd ps n ks := by
  obtain ⟨oc, od, kV, doc, pm, an, cdv, ct, osl, rfl, lk, hcd⟩ := F.ex
  exact fun s us ws _ h1 h2 => .of_eq (h kV doc pm an cdv ct us ws h1 h2)
end DL

namespace DL
open PySem PySem.Spec PyProof.Rows L2

/-! ### list comprehensions -/
/-- the tests of a clause -/
structure DTs (X : Cx) (R : Res) (ifs : List Expr) (T : XB') : Prop where
  run : ∀ (pins : List (Addr × Obj)) (s : Shared) (σ : St) (H H0 : Hp) (ρ : En) (Q : Bool → Prop), Inv X pins σ H s → R.inv H0 → R.inv H → Sl X.K H0 H σ ρ → T ρ Q →
    wpAny (model X.prog X.w) X.A (forIn ifs true fun c r => if r = true then do let ok ← isTrue c X.env (eval c X.env); pure (ForInStep.yield ok) else pure (ForInStep.yield r)) (TP X pins σ (LT R H Q)) X.xe s
def dYes : XB' := fun _ Q => Q true
section
variable {X : Cx} {R : Res}
theorem dts_nil : DTs X R [] dYes := ⟨fun _ _ _ H _ _ _ I _ _ _ h => wpAny_tests_nil ⟨H, I, Go.refl H, h⟩⟩
theorem dts_one {c : Expr} {T : XB'} (h : DT X R c T) : DTs X R [c] T := ⟨fun pins s σ H H0 ρ Q I i0 iH sl hT => wpAny_tests_one (h.run pins s σ H H0 ρ Q I i0 iH sl hT)⟩
theorem DTs.pts {ifs : List Expr} {T : XB'} (h : DTs X R ifs T) : PTs X ifs (toT X R T) := ⟨fun pins s σ H Q I ⟨H0, ρ, Q', i0, iH, sl, hT, k⟩ => thn (h.run pins s σ H H0 ρ Q' I i0 iH sl hT) fun _ _ q => TP.imp q k⟩
/-- the names of a comprehension are forgotten -/
def wipeE (ρ : En) : List Nat → En
  | [] => ρ
  | v :: vs => (wipeE ρ vs).set v .no
theorem Sl.unset {K : PySem.W.Frag} {H0 H : Hp} {σ : St} {ρ : En} {i : Nat} (s : Sl K H0 H σ ρ) : Sl K H0 H (σ.set i none) (ρ.set i .no) := by
  refine ⟨by simp [s.len], fun j sl e => ?_, fun j k ds es a e1 e2 e3 e4 => ?_⟩
  · rcases getElem?_set_case e with ⟨rfl, rfl, hl⟩ | ⟨hn, e⟩
    · exact ⟨none, by rw [List.getElem?_set_self (by rw [s.len]; exact hl)], .no⟩
    · obtain ⟨o, h1, h2⟩ := s.at_ j sl e
      exact ⟨o, by rw [List.getElem?_set_ne (Ne.symm hn)]; exact h1, h2⟩
  · rcases getElem?_set_case e1 with ⟨_, z, _⟩ | ⟨n1, f1⟩
    · cases z
    · rcases getElem?_set_case e2 with ⟨_, z, _⟩ | ⟨n2, f2⟩
      · cases z
      · rw [List.getElem?_set_ne (Ne.symm n1)] at e3
        rw [List.getElem?_set_ne (Ne.symm n2)] at e4
        exact s.apart j k ds es a f1 f2 e3 e4
theorem Sl.wipe {K : PySem.W.Frag} {H0 H : Hp} {σ : St} {ρ : En} (s : Sl K H0 H σ ρ) : ∀ vs : List Nat, Sl K H0 H (L2.wipe σ vs) (wipeE ρ vs)
  | [] => s
  | v :: vs => by unfold L2.wipe wipeE; exact (Sl.wipe s vs).unset
def lcGo (B : D → En → (En → Prop) → Prop) (Tt : XB') (Te : XE') (ρ : En) : List D → (List D → Prop) → Prop
  | [], Q => Q []
  | d :: ds, Q => B d ρ fun ρ' => Tt ρ' fun b => if b = true then Te ρ' fun y => lcGo B Tt Te ρ ds fun ys => Q (y :: ys) else lcGo B Tt Te ρ ds Q
def dLc (Ti : XL') (B : D → En → (En → Prop) → Prop) (Tt : XB') (Te : XE') (vs : List Nat) : XL' := fun ρ Q => Ti ρ fun ds => lcGo B Tt Te (wipeE ρ vs) ds Q
open Classical in
/-- the ground under an expression: just the shared thing -/
noncomputable def grd (R : Res) (H : Hp) : Hp := fun b => if R.fp b then H b else none
theorem grd_inv {R : Res} {H : Hp} (i : R.inv H) : R.inv (grd R H) := R.stab (fun a h => by unfold grd; rw [if_pos h]) i
theorem grd_go {R : Res} {H H' : Hp} (i : R.inv H') : Go R (grd R H) H' := ⟨fun a o h n => (by unfold grd at h; rw [if_neg n] at h; cases h), fun _ => i⟩
theorem Sl.grd {K : PySem.W.Frag} {H0 H G : Hp} {σ : St} {ρ : En} (s : Sl K H0 H σ ρ) (i0 : R.inv H0) (iG : R.inv G) : Sl K (grd R G) H σ ρ :=
  ⟨s.len, fun i sl e => (by
    obtain ⟨o, h1, h2⟩ := s.at_ i sl e
    refine ⟨o, h1, ?_⟩
    cases h2 with
    | no => exact .no
    | val r => exact .val r
    | own h n r =>
      refine .own h ?_ r
      unfold DL.grd
      rw [if_neg]
      intro z
      obtain ⟨u, e, _⟩ := R.has i0 z
      rw [n] at e
      cases e), s.apart⟩
theorem wipe_wipe {σ : St} (vs : List Nat) : L2.wipe (L2.wipe σ vs) vs = L2.wipe σ vs := by
  have : ∀ (us : List Nat) (τ : St), (∀ i ∈ us, i ∈ vs) → L2.wipe (L2.wipe τ us) vs = L2.wipe τ vs := by
    intro us
    induction us with
    | nil => intro τ _; rfl
    | cons u us ih =>
      intro τ h
      show L2.wipe ((L2.wipe τ us).set u none) vs = _
      rw [wipe_set (h u (List.mem_cons_self ..)), ih τ fun i hi => h i (List.mem_cons_of_mem _ hi)]
  exact this vs σ fun _ h => h
/-- the reading of a comprehension -/
theorem lc_read {Ti : XL'} {B : D → En → (En → Prop) → Prop} {is vs : List Nat} {Tt : XB'} {Te : XE'} (hv : ∀ i ∈ is, i ∈ vs) {σ : St} {H H0 : Hp} {ρ : En} {Q : List D → Prop} {Q' : VK} (i0 : R.inv H0) (iH : R.inv H) (sl : Sl X.K H0 H σ ρ)
    (h : dLc Ti B Tt Te vs ρ Q) (k : ∀ v H', LF X.K R H Q v H' → Q' v H') : tLc (toI X R Ti) (toG X R B is) (toT X R Tt) (toE X R Te) vs σ H Q' := by
  refine ⟨H0, ρ, _, i0, iH, sl, h, fun J H1 ds g1 id hz q C hC => ?_⟩
  have i1 := g1.inv iH
  have nC : ¬ R.fp C := fun z => by obtain ⟨o, e, _⟩ := R.has i1 z; rw [hC] at e; cases e
  have sl1 := sl.go i0 iH g1
  refine ⟨fun i m H' => m = ds.length - i ∧ i ≤ ds.length ∧ ∃ acc as, H' C = some (.lst acc) ∧ RepL X.K H' acc as ∧ acc.length ≤ i ∧ Ext H1 H' ∧ Go R H1 H' ∧ lcGo B Tt Te (wipeE ρ vs) (ds.drop i) (fun ys => Q (as ++ ys)), ⟨_, rfl, Nat.zero_le _, [], [], upd_same, .nil, Nat.le_refl _, (Go.new hC i1).ext i1, Go.new hC i1, q⟩, ?_⟩
  rintro i m H' ⟨rfl, hi, acc, as, hD, ra, hl, x', g', q'⟩
  by_cases hlt : i < ds.length
  · refine .inr ⟨id.go i H' x' hlt, fun H2 => ∃ acc as, H2 C = some (.lst acc) ∧ RepL X.K H2 acc as ∧ acc.length ≤ i + 1 ∧ Ext H1 H2 ∧ Go R H1 H2 ∧ lcGo B Tt Te (wipeE ρ vs) (ds.drop (i + 1)) (fun ys => Q (as ++ ys)), fun H2 n => ⟨_, by omega, rfl, hlt, n⟩, fun v H2 hy => ?_⟩
    have hd := List.getElem?_eq_getElem hlt
    obtain ⟨s2, hn, r⟩ := id.yld i H' v H2 _ x' hy hd
    have i' := g'.inv i1
    have g2 : Go R H' H2 := by
      rcases hn with e | ⟨p, o, n, e⟩
      · rw [e]; exact Go.refl _
      · rw [e]; exact Go.new n i'
    have g12 := g'.trans g2
    have i2 := g2.inv i'
    rw [List.drop_eq_getElem_cons hlt] at q'
    have slw : Sl X.K (grd R H1) H2 (L2.wipe σ vs) (wipeE ρ vs) := (((sl1.grd i0 i1).go (grd_inv i1) i1 g12)).wipe vs
    refine ⟨grd R H1, _, _, _, grd_inv i1, grd_go i2, slw, r, q', fun σ3 ⟨ρ3, g3, x3, sl3, q3⟩ kp => ⟨by rw [kp vs hv, wipe_wipe], ?_⟩⟩
    refine ⟨grd R H1, ρ3, _, grd_inv i1, i2, sl3, q3, fun b H3 ⟨g4, q4⟩ => ?_⟩
    have i3 := g4.inv i2
    have hC3 : H3 C = some (.lst acc) := g4.keep _ _ (g2.keep _ _ hD nC) nC
    have x13 : Ext H1 H3 := x'.trans ((g2.ext i').trans (g4.ext i2))
    have ra3 := (ra.ext (g2.ext i')).ext (g4.ext i2)
    have g13 := g12.trans g4
    cases b with
    | false =>
      simp only [Bool.false_eq_true, if_false] at q4 ⊢
      exact ⟨acc, as, hC3, ra3, by omega, x13, g13, q4⟩
    | true =>
      simp only [if_true] at q4 ⊢
      refine ⟨grd R H1, ρ3, _, grd_inv i1, i3, sl3.go (grd_inv i1) i2 g4, q4, fun y H4 ⟨g5, d, rd, q5⟩ => ?_⟩
      have hC4 : H4 C = some (.lst acc) := g5.keep _ _ hC3 nC
      have x5 := g5.ext i3
      have xu : Ext H4 (upd H4 C (.lst (acc ++ [y]))) := ext_upd hC4
      refine ⟨acc, hC4, by omega, acc ++ [y], as ++ [d], upd_same, (ra3.ext (x5.trans xu)).append (.cons (rd.ext xu) .nil), by simp; omega, (x13.trans x5).trans xu, go_own i1 (g13.trans g5) hC, ?_⟩
      simpa [List.append_assoc] using q5
  · have e : i = ds.length := by omega
    subst e
    rw [List.drop_length] at q'
    exact .inl ⟨id.stop _ H' x' (Nat.le_refl _), k _ _ ⟨g1.trans g', C, acc, as, rfl, g1.none_of iH hC, hD, ra, by simpa [lcGo] using q'⟩⟩
/-- a comprehension: a new list -/
theorem df_lc {elt tg iter : Expr} {ifs : List Expr} {scope : Scope} {own : List (Str × Nat)} {pos : Pos} {Ti : XL'} {B : D → En → (En → Prop) → Prop} {is : List Nat} {Tt : XB'} {Te : XE'} (hc : X.calm = true) (hN : X.N.Nodup) (hi : DI X R tg iter Ti) (ok : BlkOk X.N X.env.scope scope own)
    (hg : ∀ (s : Shared) (H : Hp) (C : Addr) (cl : List (Str × Addr)) (fp : List Addr), DG (X.blk s H scope (compEnvC scope cl C X.env) fp) R tg B is) (ht : ∀ (s : Shared) (H : Hp) (C : Addr) (cl : List (Str × Addr)) (fp : List Addr), DTs (X.blk s H scope (compEnvC scope cl C X.env) fp) R ifs Tt)
    (he : ∀ (s : Shared) (H : Hp) (C : Addr) (cl : List (Str × Addr)) (fp : List Addr), DE (X.blk s H scope (compEnvC scope cl C X.env) fp) R elt Te) (hv : ∀ i ∈ is, i ∈ own.map (·.2) := by decide) (hs : ∀ x, foldedSetIterable iter X.env x = pure x := by intro _; rfl) :
    DF X R (.ListComp elt [⟨tg, iter, ifs, 0⟩] scope pos) (dLc Ti B Tt Te (own.map (·.2))) :=
  DF.mk' (pe_lc hc hN hi.pi ok (fun s H C cl fp => (hg s H C cl fp).pg) (fun s H C cl fp => (ht s H C cl fp).pts) (fun s H C cl fp => (he s H C cl fp).pe) hs) fun σ H H0 ρ Q i0 iH sl h => lc_read (X := X) hv i0 iH sl h fun _ _ z => z
/-- name = [..] on one line -/
theorem ds_setLcO {i : Nat} {y : Str} {py : Pos} {elt tg iter : Expr} {ifs : List Expr} {scope : Scope} {own : List (Str × Nat)} {pos spos : Pos} {Ti : XL'} {B : D → En → (En → Prop) → Prop} {is : List Nat} {Tt : XB'} {Te : XE'} (hc : X.calm = true) (hN : X.N.Nodup) (hy : X.N[i]? = some y) (hyl : X.env.scope.names.lookup y = some .local)
    (hsw : swapsWith (.ListComp elt [⟨tg, iter, ifs, 0⟩] scope pos) (some (.Name y py)) spos.line X.env = pure true) (hi : DI X R tg iter Ti) (ok : BlkOk X.N X.env.scope scope own)
    (hg : ∀ (s : Shared) (H : Hp) (C : Addr) (cl : List (Str × Addr)) (fp : List Addr), DG (X.blk s H scope (compEnvC scope cl C X.env) fp) R tg B is) (ht : ∀ (s : Shared) (H : Hp) (C : Addr) (cl : List (Str × Addr)) (fp : List Addr), DTs (X.blk s H scope (compEnvC scope cl C X.env) fp) R ifs Tt)
    (he : ∀ (s : Shared) (H : Hp) (C : Addr) (cl : List (Str × Addr)) (fp : List Addr), DE (X.blk s H scope (compEnvC scope cl C X.env) fp) R elt Te) (hv : ∀ i ∈ is, i ∈ own.map (·.2) := by decide) (hs : ∀ x, foldedSetIterable iter X.env x = pure x := by intro _; rfl) :
    DS X R (.Assign [.Name y py] (.ListComp elt [⟨tg, iter, ifs, 0⟩] scope pos) spos) (dSetO i (dLc Ti B Tt Te (own.map (·.2)))) :=
  DS.mk' (ps_setLc hc hN hy hyl hsw hi.pi ok (fun s H C cl fp => (hg s H C cl fp).pg) (fun s H C cl fp => (ht s H C cl fp).pts) (fun s H C cl fp => (he s H C cl fp).pe) hs) fun σ H H0 ρ N i0 g sl h => lc_read (X := X) hv i0 (g.inv i0) sl h fun v H' ⟨g', a, vs, ds, e, n, ha, r, q⟩ => by
    subst e
    obtain ⟨g2, sl2⟩ := own_new (i := i) i0 g sl g' n ha r
    exact ⟨_, g2, g'.ext (g.inv i0), sl2, q⟩
/-- a new list that a name takes for good: set as its own, then frozen -/
def dSetF (i : Nat) (Te : XL') : XS := fun N ρ => Te ρ fun ds => N.nx (ρ.set i (.val (.lst ds)))
theorem DS.setF {st : Stmt} {i : Nat} {Te : XL'} (h : DS X R st (dSetO i Te)) (hN : i < X.N.length) : DS X R st (dSetF i Te) := ⟨fun pins s σ H H0 ρ N I i0 g sl hT => by
  have hl : i < ρ.length := by rw [← sl.len, I.len]; exact hN
  have e1 : (fun ds => N.nx (ρ.set i (.val (.lst ds)))) = fun ds => ∃ es, ρ.set i (.own ds) = ρ.set i (.own es) ∧ N.nx (ρ.set i (.val (.lst es))) := by
    funext ds
    refine propext ⟨fun q => ⟨ds, rfl, q⟩, fun ⟨es, e, q⟩ => ?_⟩
    have e2 : (ρ.set i (.own ds))[i]? = (ρ.set i (.own es))[i]? := by rw [e]
    rw [List.getElem?_set_self hl, List.getElem?_set_self hl] at e2
    cases e2
    exact q
  have hT2 : Te ρ fun ds => N.nx (ρ.set i (.val (.lst ds))) := hT
  rw [e1] at hT2
  refine thn (h.run pins s σ H H0 ρ { N with nx := fun ρ' => ∃ es, ρ' = ρ.set i (.own es) ∧ N.nx (ρ.set i (.val (.lst es))) } I i0 g sl hT2) fun f s' q => ?_
  cases f with
  | next =>
    obtain ⟨σ', H', I', ρ', g', x', sl', es, e, q⟩ := q
    subst e
    obtain ⟨H2, I2, g2, x2, sl2⟩ := own_frz I' i0 g' sl' (List.getElem?_set_self hl)
    rw [List.set_set] at sl2
    exact ⟨σ', H2, I2, _, g2, x'.trans x2, sl2, q⟩
  | brk => exact q
  | cont => exact q
  | ret u => exact q⟩
/-! ahead of an expression the own lists of a name are locked; what comes is free of lists -/
mutual
def noRef : D → Bool
  | .lst _ => false
  | .dic _ => false
  | .raw _ => true
  | .tup xs => noRefs xs
  | _ => true
def noRefs : List D → Bool
  | [] => true
  | d :: ds => noRef d && noRefs ds
end
mutual
theorem Rep.noref {K : PySem.W.Frag} {H H' : Hp} (ht : ∀ a xs, H a = some (.tup xs) → H' a = some (.tup xs)) (hf : ∀ a o xs, H a = some (.frz o (.tup xs)) → H' a = some (.frz o (.tup xs))) : ∀ {v : V} {d : D}, noRef d = true → Rep K H v d → Rep K H' v d
  | _, _, _, .non => .non
  | _, _, _, .bl b => .bl b
  | _, _, _, .int i => .int i
  | _, _, _, .str s => .str s
  | _, _, h, .tup q r => .tup (by
      rcases q with (q | ⟨o, q⟩) | q
      · exact .inl (.inl (ht _ _ q))
      · exact .inl (.inr ⟨o, hf _ _ _ q⟩)
      · exact .inr q) (RepL.noref ht hf (by simpa only [noRef] using h) r)
  | _, _, h, .lst _ _ => by simp only [noRef] at h; cases h
  | _, _, h, .dic _ _ _ => by simp only [noRef] at h; cases h
  | _, _, _, .raw v => .raw v
theorem RepL.noref {K : PySem.W.Frag} {H H' : Hp} (ht : ∀ a xs, H a = some (.tup xs) → H' a = some (.tup xs)) (hf : ∀ a o xs, H a = some (.frz o (.tup xs)) → H' a = some (.frz o (.tup xs))) : ∀ {vs : List V} {ds : List D}, noRefs ds = true → RepL K H vs ds → RepL K H' vs ds
  | _, _, _, .nil => .nil
  | _, _, h, .cons r q => by
    simp only [noRefs, Bool.and_eq_true] at h
    exact .cons (Rep.noref ht hf h.1 r) (RepL.noref ht hf h.2 q)
end
def dLock (i : Nat) (T : XE') : XE' := fun ρ Q => ∃ ds, ρ[i]? = some (.own ds) ∧ T (ρ.set i (.val (.lst ds))) fun d => noRef d = true ∧ Q d
theorem DE.lock {e : Expr} {T : XE'} (i : Nat) (h : DE X R e T) : DE X R e (dLock i T) := ⟨fun pins s σ H H0 ρ Q I i0 iH sl ⟨ds, e, hT⟩ => by
  obtain ⟨a, vs, ea, ha, na, r⟩ := sl.own e
  obtain ⟨od, I'⟩ := I.lock ha trivial
  have nf : ¬ R.fp a := fun z => by obtain ⟨u, eu, _⟩ := R.has i0 z; rw [na] at eu; cases eu
  have x : Ext H (upd H a (.frz od (.lst vs))) := ext_upd ha
  have iL : R.inv (upd H a (.frz od (.lst vs))) := R.stab (fun b fb => upd_ne fun z => nf (by rw [← z]; exact fb)) iH
  have slL : Sl X.K H0 (upd H a (.frz od (.lst vs))) σ (ρ.set i (.val (.lst ds))) := by
    refine ⟨by simp [sl.len], fun j v ej => ?_, fun j k ds' es' b e1 e2 e3 e4 => ?_⟩
    · rcases getElem?_set_case ej with ⟨rfl, rfl, hl⟩ | ⟨hn, ej⟩
      · exact ⟨_, ea, .val (.lst (.inl ⟨od, upd_same⟩) (r.ext x))⟩
      · obtain ⟨o, h1, h2⟩ := sl.at_ j v ej
        refine ⟨o, h1, ?_⟩
        cases h2 with
        | no => exact .no
        | val q => exact .val (q.ext x)
        | own hb nb q =>
          refine .own ?_ nb (q.ext x)
          rw [upd_ne (fun z => hn (sl.apart j i _ _ _ ej e h1 (by rw [z]; exact ea)))]
          exact hb
    · rcases getElem?_set_case e1 with ⟨_, z, _⟩ | ⟨n1, f1⟩
      · cases z
      · rcases getElem?_set_case e2 with ⟨_, z, _⟩ | ⟨n2, f2⟩
        · cases z
        · exact sl.apart j k ds' es' b f1 f2 e3 e4
  refine thn (h.run pins s σ _ H0 _ _ I' i0 iL slL hT) fun u s1 ⟨v, H1, I1, rv, g1, d, rd, hd, q⟩ => ?_
  have h1 : H1 a = some (.frz od (.lst vs)) := g1.keep _ _ upd_same nf
  refine ⟨v, _, I1.unlock h1 (I.nofrz ha trivial), rv, ⟨fun b o eb nb => ?_, fun _ => R.stab (fun b fb => upd_ne fun z => nf (by rw [← z]; exact fb)) (g1.inv iL)⟩, d, ?_, q⟩
  · by_cases hb : b = a
    · subst hb; rw [ha] at eb; cases eb; exact upd_same
    · rw [upd_ne hb]; exact g1.keep b o (by rw [upd_ne hb]; exact eb) nb
  · refine rd.noref (fun b xs eb => ?_) (fun b o xs eb => ?_) hd
    · rw [upd_ne (fun z => by rw [z, h1] at eb; cases eb)]; exact eb
    · rw [upd_ne (fun z => by rw [z, h1] at eb; cases eb)]; exact eb⟩
end
end DL

namespace DL
open PySem PySem.Spec PyProof.Rows L2

/-! data as the library's: depth, weight, ==, <, repr -/
mutual
def toPy : D → PyData
  | .non => .none
  | .bl b => .bool b
  | .int i => .int i
  | .str s => .str (mkS s)
  | .tup xs => .tuple (toPys xs)
  | .lst xs => .list (toPys xs)
  | .dic _ => .none
  | .raw _ => .none
def toPys : List D → List PyData
  | [] => []
  | d :: ds => toPy d :: toPys ds
end
/-! no dict, no other thing within; at most n deep -/
mutual
def ok : Nat → D → Bool
  | _, .non => true
  | _, .bl _ => true
  | _, .int _ => true
  | _, .str s => s.all fun c => decide (c < 0x110000)
  | n, .tup xs => decide (0 < n) && oks (n - 1) xs
  | n, .lst xs => decide (0 < n) && oks (n - 1) xs
  | _, .dic _ => false
  | _, .raw _ => false
def oks : Nat → List D → Bool
  | _, [] => true
  | n, d :: ds => ok n d && oks n ds
end
theorem toPys_map : ∀ ds : List D, toPys ds = ds.map toPy
  | [] => rfl
  | d :: ds => by rw [toPys, List.map_cons, toPys_map ds]
theorem toPys_len (ds : List D) : (toPys ds).length = ds.length := by rw [toPys_map, List.length_map]
theorem oks_iff {n : Nat} : ∀ {ds : List D}, oks n ds = true ↔ ∀ d ∈ ds, ok n d = true
  | [] => by simp [oks]
  | d :: ds => by simp [oks, oks_iff (ds := ds)]
mutual
theorem ok_lay : ∀ {n : Nat} {d : D}, ok n d = true → (toPy d).canLay0 = true ∧ (toPy d).depth ≤ n
  | n, .non, _ => by simp [toPy, PyData.canLay0, PyData.depth]
  | n, .bl _, _ => by simp [toPy, PyData.canLay0, PyData.depth]
  | n, .int _, _ => by simp [toPy, PyData.canLay0, PyData.depth]
  | n, .str s, h => by
    simp only [ok, List.all_eq_true, decide_eq_true_eq] at h
    simp only [toPy, PyData.canLay0, PyData.depth]
    refine ⟨?_, Nat.zero_le _⟩
    show (mkS s).cps.all _ = true
    simp
    exact h
  | n, .tup xs, h => by
    simp only [ok, Bool.and_eq_true, decide_eq_true_eq] at h
    have := oks_lay h.2
    simp only [toPy, PyData.canLay0, PyData.depth]
    exact ⟨this.1, by omega⟩
  | n, .lst xs, h => by
    simp only [ok, Bool.and_eq_true, decide_eq_true_eq] at h
    have := oks_lay h.2
    simp only [toPy, PyData.canLay0, PyData.depth]
    exact ⟨this.1, by omega⟩
  | n, .dic _, h => by simp [ok] at h
  | n, .raw _, h => by simp [ok] at h
theorem oks_lay : ∀ {n : Nat} {ds : List D}, oks n ds = true → PyData.canLayAll0 (toPys ds) = true ∧ PyData.depthAll (toPys ds) ≤ n
  | n, [], _ => by simp [toPys, PyData.canLayAll0, PyData.depthAll]
  | n, d :: ds, h => by
    simp only [oks, Bool.and_eq_true] at h
    have h1 := ok_lay h.1
    have h2 := oks_lay h.2
    simp only [toPys, PyData.canLayAll0, PyData.depthAll, h1.1, h2.1, Bool.and_self, true_and]
    omega
end
mutual
theorem ok_mono : ∀ {n m : Nat} {d : D}, ok n d = true → n ≤ m → ok m d = true
  | _, _, .non, _, _ => by simp [ok]
  | _, _, .bl _, _, _ => by simp [ok]
  | _, _, .int _, _, _ => by simp [ok]
  | _, _, .str s, h, _ => by simpa [ok] using h
  | n, m, .tup xs, h, hm => by
    simp only [ok, Bool.and_eq_true, decide_eq_true_eq] at h ⊢
    exact ⟨by omega, oks_mono h.2 (by omega)⟩
  | n, m, .lst xs, h, hm => by
    simp only [ok, Bool.and_eq_true, decide_eq_true_eq] at h ⊢
    exact ⟨by omega, oks_mono h.2 (by omega)⟩
  | _, _, .dic _, h, _ => by simp [ok] at h
  | _, _, .raw _, h, _ => by simp [ok] at h
theorem oks_mono : ∀ {n m : Nat} {ds : List D}, oks n ds = true → n ≤ m → oks m ds = true
  | _, _, [], _, _ => by simp [oks]
  | n, m, d :: ds, h, hm => by
    simp only [oks, Bool.and_eq_true] at h ⊢
    exact ⟨ok_mono h.1 hm, oks_mono h.2 hm⟩
end

/-! ### == -/
mutual
def deq : D → D → Bool
  | .non, .non => true
  | .bl a, .bl b => a == b
  | .bl a, .int j => (if a then 1 else 0) == j
  | .int i, .bl b => i == (if b then 1 else 0)
  | .int i, .int j => i == j
  | .str x, .str y => x == y
  | .lst xs, .lst ys => deqs xs ys
  | .tup xs, .tup ys => deqs xs ys
  | _, _ => false
def deqs : List D → List D → Bool
  | [], [] => true
  | x :: xs, y :: ys => deq x y && deqs xs ys
  | _, _ => false
end
theorem mkS_beq (x y : List Nat) : (mkS x == mkS y) = (x == y) := by
  rw [Bool.eq_iff_iff, beq_iff_eq, beq_iff_eq]
  constructor
  · intro h
    have := congrArg (fun s : Str => s.cps.toList) h
    simpa using this
  · intro h; rw [h]
mutual
theorem eqv_deq : ∀ {n m : Nat} {x y : D}, ok n x = true → ok m y = true → PyData.eqv (toPy x) (toPy y) = deq x y
  | _, _, .non, y, _, hy => by cases y <;> simp [toPy, PyData.eqv, deq, ok] at hy ⊢
  | _, _, .bl _, y, _, hy => by cases y <;> simp [toPy, PyData.eqv, deq, ok] at hy ⊢
  | _, _, .int _, y, _, hy => by cases y <;> simp [toPy, PyData.eqv, deq, ok] at hy ⊢
  | _, _, .str s, y, _, hy => by cases y <;> first | (simp [toPy, PyData.eqv, deq, ok] at hy ⊢; done) | (simp only [toPy, PyData.eqv, deq]; exact mkS_beq _ _)
  | n, m, .tup xs, y, hx, hy => by
    cases y with
    | tup ys =>
      simp only [ok, Bool.and_eq_true] at hx hy
      simp only [toPy, PyData.eqv, deq]
      exact eqv_deqs hx.2 hy.2
    | _ => simp [toPy, PyData.eqv, deq, ok] at hy ⊢
  | n, m, .lst xs, y, hx, hy => by
    cases y with
    | lst ys =>
      simp only [ok, Bool.and_eq_true] at hx hy
      simp only [toPy, PyData.eqv, deq]
      exact eqv_deqs hx.2 hy.2
    | _ => simp [toPy, PyData.eqv, deq, ok] at hy ⊢
  | _, _, .dic _, _, hx, _ => by simp [ok] at hx
  | _, _, .raw _, _, hx, _ => by simp [ok] at hx
theorem eqv_deqs : ∀ {n m : Nat} {xs ys : List D}, oks n xs = true → oks m ys = true → PyData.eqvAll (toPys xs) (toPys ys) = deqs xs ys
  | _, _, [], [], _, _ => by simp [toPys, PyData.eqvAll, deqs]
  | _, _, [], _ :: _, _, _ => by simp [toPys, PyData.eqvAll, deqs]
  | _, _, _ :: _, [], _, _ => by simp [toPys, PyData.eqvAll, deqs]
  | _, _, x :: xs, y :: ys, hx, hy => by
    simp only [oks, Bool.and_eq_true] at hx hy
    simp only [toPys, PyData.eqvAll, deqs]
    rw [eqv_deq hx.1 hy.1, eqv_deqs hx.2 hy.2]
end
/-! ### < -/
mutual
/-- the two may be compared by < -/
def alk : D → D → Bool
  | .bl _, .bl _ => true
  | .int _, .int _ => true
  | .str _, .str _ => true
  | .lst xs, .lst ys => alks xs ys
  | .tup xs, .tup ys => alks xs ys
  | .non, .non => true
  | _, _ => false
def alks : List D → List D → Bool
  | x :: xs, y :: ys => alk x y && alks xs ys
  | _, _ => true
end
mutual
def dlt : D → D → Bool
  | .bl a, .bl b => !a && b
  | .int i, .int j => decide (i < j)
  | .str x, .str y => decide (x < y)
  | .lst xs, .lst ys => dlts xs ys
  | .tup xs, .tup ys => dlts xs ys
  | _, _ => false
def dlts : List D → List D → Bool
  | [], [] => false
  | [], _ :: _ => true
  | _ :: _, [] => false
  | x :: xs, y :: ys => if deq x y = true then dlts xs ys else dlt x y
end
mutual
theorem alk_alike : ∀ {n m : Nat} {x y : D}, ok n x = true → ok m y = true → W.alike (toPy x) (toPy y) = alk x y
  | _, _, .non, y, _, hy => by cases y <;> simp [toPy, W.alike, alk, ok] at hy ⊢
  | _, _, .bl _, y, _, hy => by cases y <;> simp [toPy, W.alike, alk, ok] at hy ⊢
  | _, _, .int _, y, _, hy => by cases y <;> simp [toPy, W.alike, alk, ok] at hy ⊢
  | _, _, .str s, y, _, hy => by cases y <;> simp [toPy, W.alike, alk, ok] at hy ⊢
  | n, m, .tup xs, y, hx, hy => by
    cases y with
    | tup ys =>
      simp only [ok, Bool.and_eq_true] at hx hy
      simp only [toPy, W.alike, alk]
      exact alks_alike hx.2 hy.2
    | _ => simp [toPy, W.alike, alk, ok] at hy ⊢
  | n, m, .lst xs, y, hx, hy => by
    cases y with
    | lst ys =>
      simp only [ok, Bool.and_eq_true] at hx hy
      simp only [toPy, W.alike, alk]
      exact alks_alike hx.2 hy.2
    | _ => simp [toPy, W.alike, alk, ok] at hy ⊢
  | _, _, .dic _, _, hx, _ => by simp [ok] at hx
  | _, _, .raw _, _, hx, _ => by simp [ok] at hx
theorem alks_alike : ∀ {n m : Nat} {xs ys : List D}, oks n xs = true → oks m ys = true → W.alikeAll (toPys xs) (toPys ys) = alks xs ys
  | _, _, [], ys, _, _ => by cases ys <;> simp [toPys, W.alikeAll, alks]
  | _, _, _ :: _, [], _, _ => by simp [toPys, W.alikeAll, alks]
  | _, _, x :: xs, y :: ys, hx, hy => by
    simp only [oks, Bool.and_eq_true] at hx hy
    simp only [toPys, W.alikeAll, alks]
    rw [alk_alike hx.1 hy.1, alks_alike hx.2 hy.2]
end
theorem lex_nn : PyProof.Rows.lexLt itemOrd (W.keyToksAll []) (W.keyToksAll []) = false := PyProof.Rows.lex_irrefl _
theorem lex_nc (y : PyData) (ys : List PyData) : PyProof.Rows.lexLt itemOrd (W.keyToksAll []) (W.keyToksAll (y :: ys)) = true := by
  rw [W.toks_all_cons, W.keyToksAll]
  exact (PyProof.Rows.lex_cons (O := itemOrd) _ _ _ _).trans (by rw [show itemOrd.blt (Sum.inl 0) (Sum.inl 1) = true from rfl]; rfl)
theorem lex_cn (y : PyData) (ys : List PyData) : PyProof.Rows.lexLt itemOrd (W.keyToksAll (y :: ys)) (W.keyToksAll []) = false := by
  rw [W.toks_all_cons, W.keyToksAll]
  exact (PyProof.Rows.lex_cons (O := itemOrd) _ _ _ _).trans (by rw [show itemOrd.blt (Sum.inl 1) (Sum.inl 0) = false from rfl, show itemOrd.blt (Sum.inl 0) (Sum.inl 1) = true from rfl]; rfl)
mutual
theorem lt_dlt : ∀ {n m : Nat} {x y : D}, ok n x = true → ok m y = true → alk x y = true → x ≠ .non → W.dataLt (toPy x) (toPy y) = dlt x y
  | _, _, .non, y, _, _, _, h => absurd rfl h
  | _, _, .bl a, y, _, _, hl, _ => by
    cases y with
    | bl b => simp only [toPy, dlt]; rw [W.dataLt_bool]; cases a <;> cases b <;> rfl
    | _ => simp [alk] at hl
  | _, _, .int _, y, _, _, hl, _ => by
    cases y with
    | int b => simp only [toPy, dlt]; exact W.dataLt_int _ _
    | _ => simp [alk] at hl
  | _, _, .str s, y, _, _, hl, _ => by
    cases y with
    | str b => simp only [toPy, dlt]; exact W.dataLt_str _ _
    | _ => simp [alk] at hl
  | n, m, .tup xs, y, hx, hy, hl, _ => by
    cases y with
    | tup ys =>
      simp only [ok, Bool.and_eq_true] at hx hy
      simp only [alk] at hl
      simp only [toPy, dlt]
      exact lt_dlts hx.2 hy.2 hl
    | _ => simp [alk] at hl
  | n, m, .lst xs, y, hx, hy, hl, _ => by
    cases y with
    | lst ys =>
      simp only [ok, Bool.and_eq_true] at hx hy
      simp only [alk] at hl
      simp only [toPy, dlt]
      exact lt_dlts hx.2 hy.2 hl
    | _ => simp [alk] at hl
  | _, _, .dic _, _, hx, _, _, _ => by simp [ok] at hx
  | _, _, .raw _, _, hx, _, _, _ => by simp [ok] at hx
theorem lt_dlts : ∀ {n m : Nat} {xs ys : List D}, oks n xs = true → oks m ys = true → alks xs ys = true → PyProof.Rows.lexLt itemOrd (W.keyToksAll (toPys xs)) (W.keyToksAll (toPys ys)) = dlts xs ys
  | _, _, [], [], _, _, _ => by simp only [toPys, dlts]; exact lex_nn
  | _, _, [], y :: ys, _, _, _ => by simp only [toPys, dlts]; exact lex_nc _ _
  | _, _, x :: xs, [], _, _, _ => by simp only [toPys, dlts]; exact lex_cn _ _
  | _, _, x :: xs, y :: ys, hx, hy, hl => by
    simp only [oks, Bool.and_eq_true] at hx hy
    simp only [alks, Bool.and_eq_true] at hl
    simp only [toPys, dlts]
    rw [W.dataLt_cons (by rw [alk_alike hx.1 hy.1]; exact hl.1), eqv_deq hx.1 hy.1, lt_dlts hx.2 hy.2 hl.2]
    by_cases e : deq x y = true
    · rw [if_pos e, if_pos e]
    · rw [if_neg e, if_neg e]
      refine lt_dlt hx.1 hy.1 hl.1 ?_
      rintro rfl
      cases y <;> simp [alk, deq] at hl e
end
/-! ### tuples by the first place that differs -/
mutual
/-- the two may be compared by <, tuples as far as need be -/
def cmk : D → D → Bool
  | .bl _, .bl _ => true
  | .int _, .int _ => true
  | .str _, .str _ => true
  | .lst xs, .lst ys => alks xs ys
  | .tup xs, .tup ys => cmks xs ys
  | .non, .non => true
  | _, _ => false
def cmks : List D → List D → Bool
  | x :: xs, y :: ys => if deq x y = true then cmks xs ys else cmk x y
  | _, _ => true
end
mutual
theorem cmk_py : ∀ {n m : Nat} {x y : D}, ok n x = true → ok m y = true → DW.cmpable (toPy x) (toPy y) = cmk x y
  | _, _, .non, y, _, hy => by cases y <;> simp [toPy, DW.cmpable, cmk, ok] at hy ⊢
  | _, _, .bl _, y, _, hy => by cases y <;> simp [toPy, DW.cmpable, cmk, ok] at hy ⊢
  | _, _, .int _, y, _, hy => by cases y <;> simp [toPy, DW.cmpable, cmk, ok] at hy ⊢
  | _, _, .str s, y, _, hy => by cases y <;> simp [toPy, DW.cmpable, cmk, ok] at hy ⊢
  | n, m, .tup xs, y, hx, hy => by
    cases y with
    | tup ys =>
      simp only [ok, Bool.and_eq_true] at hx hy
      simp only [toPy, DW.cmpable, cmk]
      exact cmks_py hx.2 hy.2
    | _ => simp [toPy, DW.cmpable, cmk, ok] at hy ⊢
  | n, m, .lst xs, y, hx, hy => by
    cases y with
    | lst ys =>
      simp only [ok, Bool.and_eq_true] at hx hy
      simp only [toPy, DW.cmpable, cmk]
      exact alks_alike hx.2 hy.2
    | _ => simp [toPy, DW.cmpable, cmk, ok] at hy ⊢
  | _, _, .dic _, _, hx, _ => by simp [ok] at hx
  | _, _, .raw _, _, hx, _ => by simp [ok] at hx
theorem cmks_py : ∀ {n m : Nat} {xs ys : List D}, oks n xs = true → oks m ys = true → DW.cmpables (toPys xs) (toPys ys) = cmks xs ys
  | _, _, [], ys, _, _ => by cases ys <;> simp [toPys, DW.cmpables, cmks]
  | _, _, _ :: _, [], _, _ => by simp [toPys, DW.cmpables, cmks]
  | _, _, x :: xs, y :: ys, hx, hy => by
    simp only [oks, Bool.and_eq_true] at hx hy
    simp only [toPys, DW.cmpables, cmks]
    rw [eqv_deq hx.1 hy.1, cmk_py hx.1 hy.1, cmks_py hx.2 hy.2]
end
theorem cmk_alk {x y : D} (h : cmk x y = true) (hx : ∀ xs, x ≠ .tup xs) : alk x y = true := by
  cases x <;> cases y <;> first | (simp [cmk] at h; done) | rfl | exact absurd rfl (hx _) | simpa [alk, cmk] using h
theorem cmk_non {x y : D} (h : cmk x y = true) (e : deq x y = false) : x ≠ .non := by
  rintro rfl
  cases y <;> simp [cmk, deq] at h e
mutual
theorem wlt_dlt : ∀ {n m : Nat} {x y : D}, ok n x = true → ok m y = true → cmk x y = true → x ≠ .non → DW.wLt (toPy x) (toPy y) = dlt x y
  | n, m, .tup xs, y, hx, hy, hl, hn => by
    cases y with
    | tup ys =>
      simp only [ok, Bool.and_eq_true] at hx hy
      simp only [cmk] at hl
      simp only [toPy, DW.wLt, dlt]
      exact wlts_dlts hx.2 hy.2 hl
    | _ => simp [cmk] at hl
  | _, _, .non, y, hx, hy, hl, hn => absurd rfl hn
  | _, _, .bl a, y, hx, hy, hl, hn => by
    rw [← lt_dlt hx hy (cmk_alk hl (by intro _ q; cases q)) hn]
    simp only [toPy, DW.wLt]
  | _, _, .int _, y, hx, hy, hl, hn => by
    rw [← lt_dlt hx hy (cmk_alk hl (by intro _ q; cases q)) hn]
    simp only [toPy, DW.wLt]
  | _, _, .str s, y, hx, hy, hl, hn => by
    rw [← lt_dlt hx hy (cmk_alk hl (by intro _ q; cases q)) hn]
    simp only [toPy, DW.wLt]
  | _, _, .lst s, y, hx, hy, hl, hn => by
    rw [← lt_dlt hx hy (cmk_alk hl (by intro _ q; cases q)) hn]
    simp only [toPy, DW.wLt]
  | _, _, .dic _, _, hx, _, _, _ => by simp [ok] at hx
  | _, _, .raw _, _, hx, _, _, _ => by simp [ok] at hx
theorem wlts_dlts : ∀ {n m : Nat} {xs ys : List D}, oks n xs = true → oks m ys = true → cmks xs ys = true → DW.wLts (toPys xs) (toPys ys) = dlts xs ys
  | _, _, [], [], _, _, _ => by simp [toPys, DW.wLts, dlts]
  | _, _, [], y :: ys, _, _, _ => by simp [toPys, DW.wLts, dlts]
  | _, _, x :: xs, [], _, _, _ => by simp [toPys, DW.wLts, dlts]
  | _, _, x :: xs, y :: ys, hx, hy, hl => by
    simp only [oks, Bool.and_eq_true] at hx hy
    simp only [cmks] at hl
    simp only [toPys, DW.wLts, dlts]
    rw [eqv_deq hx.1 hy.1]
    by_cases e : deq x y = true
    · rw [if_pos e] at hl ⊢
      rw [if_pos e]
      exact wlts_dlts hx.2 hy.2 hl
    · rw [if_neg e] at hl ⊢
      rw [if_neg e]
      exact wlt_dlt hx.1 hy.1 hl (cmk_non hl (Bool.eq_false_iff.mpr e))
end
theorem dataLt_dlt {n m : Nat} {x y : D} (hx : ok n x = true) (hy : ok m y = true) (h : cmk x y = true) (hn : x ≠ .non) : W.dataLt (toPy x) (toPy y) = dlt x y := by
  rw [DW.order_w _ _ (ok_lay hx).1 (by rw [cmk_py hx hy]; exact h), wlt_dlt hx hy h hn]
/-! ### weights, repr -/
mutual
def wt : D → Nat
  | .str s => s.length
  | .lst xs => wts xs
  | .tup xs => wts xs
  | .int i => i.natAbs.log2 + 1
  | _ => 0
def wts : List D → Nat
  | [] => 0
  | x :: xs => wt x + 1 + wts xs
end
mutual
theorem weight_le : ∀ d : D, (toPy d).weight ≤ wt d
  | .non => by simp [toPy, PyData.weight]
  | .bl _ => by simp [toPy, PyData.weight]
  | .int i => by
    simp only [toPy, PyData.weight, wt]
    split <;> omega
  | .str s => by simp [toPy, PyData.weight, wt]
  | .tup xs => by simp only [toPy, PyData.weight, wt]; exact weights_le xs
  | .lst xs => by simp only [toPy, PyData.weight, wt]; exact weights_le xs
  | .dic _ => by simp [toPy, PyData.weight]
  | .raw _ => by simp [toPy, PyData.weight]
theorem weights_le : ∀ ds : List D, PyData.weightAll (toPys ds) ≤ wts ds
  | [] => by simp [toPys, PyData.weightAll]
  | d :: ds => by
    have h1 := weight_le d
    have h2 := weights_le ds
    simp only [toPys, PyData.weightAll, wts]
    omega
end
mutual
/-- all ints below 2 ^ 1900 -/
def sint : D → Bool
  | .int i => decide (i.natAbs.log2 < 1900)
  | .lst xs => sints xs
  | .tup xs => sints xs
  | _ => true
def sints : List D → Bool
  | [] => true
  | x :: xs => sint x && sints xs
end
theorem sints_iff : ∀ {ds : List D}, sints ds = true ↔ ∀ d ∈ ds, sint d = true
  | [] => by simp [sints]
  | d :: ds => by simp [sints, sints_iff (ds := ds)]
mutual
theorem shows_ok : ∀ {n : Nat} {d : D}, ok n d = true → sint d = true → (toPy d).showable = true ∧ (toPy d).leavesShort 600 = true ∧ (toPy d).hasDict = false
  | _, .non, _, _ => by simp [toPy, PyData.showable, PyData.leavesShort, PyData.hasDict]
  | _, .bl _, _, _ => by simp [toPy, PyData.showable, PyData.leavesShort, PyData.hasDict]
  | _, .int i, _, h => by
    simp only [sint, decide_eq_true_eq] at h
    simp only [toPy, PyData.showable, PyData.leavesShort, PyData.hasDict, decide_eq_true_eq]
    refine ⟨by omega, ?_, trivial⟩
    have h1 : i.natAbs < 2 ^ 1900 := lt_two_pow_of_log2_lt h
    have h2 : i.natAbs < 10 ^ 599 := Nat.lt_of_lt_of_le h1 (by decide +kernel)
    have h3 := int_text_length_le10 (a := i) (k := 599) (by decide) h2
    have h4 : (PyData.shown (.int i)).length = (toString i).length := by
      show (Str.ofString (toString i)).length = _
      rw [PySem.ofString_length]
    omega
  | _, .str s, h, _ => by
    simp only [ok, List.all_eq_true, decide_eq_true_eq] at h
    simp only [toPy, PyData.showable, PyData.leavesShort, PyData.hasDict, List.all_eq_true, decide_eq_true_eq, true_and, and_true]
    intro c hc
    have := h c (by simpa using hc)
    exact Nat.lt_of_lt_of_le this (by decide)
  | n, .tup xs, h, hs => by
    simp only [ok, Bool.and_eq_true] at h
    simp only [sint] at hs
    have := shows_oks h.2 hs
    simpa [toPy, PyData.showable, PyData.leavesShort, PyData.hasDict] using this
  | n, .lst xs, h, hs => by
    simp only [ok, Bool.and_eq_true] at h
    simp only [sint] at hs
    have := shows_oks h.2 hs
    simpa [toPy, PyData.showable, PyData.leavesShort, PyData.hasDict] using this
  | _, .dic _, h, _ => by simp [ok] at h
  | _, .raw _, h, _ => by simp [ok] at h
theorem shows_oks : ∀ {n : Nat} {ds : List D}, oks n ds = true → sints ds = true → PyData.showableAll (toPys ds) = true ∧ PyData.leavesShortAll 600 (toPys ds) = true ∧ PyData.hasDictAll (toPys ds) = false
  | _, [], _, _ => by simp [toPys, PyData.showableAll, PyData.leavesShortAll, PyData.hasDictAll]
  | n, d :: ds, h, hs => by
    simp only [oks, Bool.and_eq_true] at h
    simp only [sints, Bool.and_eq_true] at hs
    have h1 := shows_ok h.1 hs.1
    have h2 := shows_oks h.2 hs.2
    simp [toPys, PyData.showableAll, PyData.leavesShortAll, PyData.hasDictAll, h1, h2]
end
/-- repr's signs -/
def shD (d : D) : List Nat := (toPy d).shown.cps.toList
theorem shD_mk (d : D) : mkS (shD d) = (toPy d).shown := by unfold shD mkS; rfl
theorem shD_len {n : Nat} {d : D} (h : ok n d = true) (hs : sint d = true) (hw : wt d ≤ 25000) : (toPy d).shown.length ≤ sizeLine := by
  have h1 := (shows_ok h hs).2.1
  have h2 := PyData.shown_le 600 (by decide) (toPy d) h1
  have h3 := weight_le d
  have h4 : (600 + 2) * (toPy d).weight ≤ 602 * 25000 := Nat.mul_le_mul_left _ (Nat.le_trans h3 hw)
  rw [sizeLine_eq]
  omega
end DL

namespace DL
open PySem PySem.Spec PyProof.Rows L2

section
variable {X : Cx} {R : Res} {pins : List (Addr × Obj)} {σ : St} {H : Hp} {s : Shared}
theorem RepB.rd {v : V} {ds : List D} (r : RepB X.K R H v (.lst ds)) : ∃ a vs, v = .ref a ∧ SqL X.K H a vs ∧ RepL X.K H vs ds := RepB.lst r
theorem Inv.rdL {a : Addr} {xs : List V} (I : Inv X pins σ H s) (h : SqL X.K H a xs) : xs.length ≤ sizeLine ∧ ∃ (its : List Value), Vals xs its ∧ s.heap.IsList a its.toArray := by
  obtain ⟨its, r, ⟨o, n, e, h1, _, h2⟩, z⟩ := I.list h
  exact ⟨z, its, r, o, e, h1, n, h2⟩
/-! ### readable things read as data -/
mutual
theorem Rep.reads (I : Inv X pins σ H s) : ∀ {n : Nat} (d : D) (v : V) (u : Value), ok n d = true → Rep X.K H v d → RelV v u → ∃ as, Reads s.heap u (toPy d) as
  | _, .non, _, _, _, h, r => by cases h; cases r; exact ⟨_, Reads.none⟩
  | _, .bl b, _, _, _, h, r => by cases h; cases r; exact ⟨_, Reads.bool b⟩
  | _, .int i, _, _, _, h, r => by cases h; obtain ⟨t, rfl⟩ := r; exact ⟨_, Reads.int i t⟩
  | _, .str x, _, _, _, h, r => by cases h; obtain ⟨t, rfl⟩ := r; exact ⟨_, Reads.str (mkS x) t⟩
  | _, .lst ds, _, _, hk, h, r => by
    simp only [ok, Bool.and_eq_true] at hk
    cases h with
    | lst hs ha =>
      cases r
      obtain ⟨_, its, rv, o, e, h1, n, h2⟩ := Inv.rdL I hs.sq
      obtain ⟨as, hr⟩ := RepL.reads I ds _ its hk.2 ha rv
      exact ⟨_, Reads.list e h1 h2 hr⟩
  | _, .tup ds, _, _, hk, h, r => by
    simp only [ok, Bool.and_eq_true] at hk
    cases h with
    | tup hs ha =>
      cases r
      obtain ⟨its, rv, ⟨o, ho, hc, n, hd⟩, _⟩ := I.tuple hs
      obtain ⟨as, hr⟩ := RepL.reads I ds _ its hk.2 ha rv
      exact ⟨_, Reads.tuple ho hc hd hr⟩
  | _, .dic _, _, _, hk, _, _ => by simp [ok] at hk
  | _, .raw _, _, _, hk, _, _ => by simp [ok] at hk
theorem RepL.reads (I : Inv X pins σ H s) : ∀ {n : Nat} (ds : List D) (vs : List V) (us : List Value), oks n ds = true → RepL X.K H vs ds → Vals vs us → ∃ as, ReadsAll s.heap us (toPys ds) as
  | _, [], _, _, _, h, r => by cases h; cases r; exact ⟨_, ReadsAll.nil⟩
  | _, d :: ds, _, _, hk, h, r => by
    simp only [oks, Bool.and_eq_true] at hk
    cases h with
    | cons h1 h2 =>
      cases r with
      | cons r1 r2 =>
        obtain ⟨as, q1⟩ := Rep.reads I d _ _ hk.1 h1 r1
        obtain ⟨bs, q2⟩ := RepL.reads I ds _ _ hk.2 h2 r2
        exact ⟨_, ReadsAll.cons q1 q2⟩
end
theorem RepB.reads (I : Inv X pins σ H s) {n : Nat} {d : D} {v : V} {u : Value} (hk : ok n d = true) (h : RepB X.K R H v d) (r : RelV v u) : ∃ as, Reads s.heap u (toPy d) as := by
  cases h with
  | of q => exact Rep.reads I d v u hk q r
  | own ha nf q =>
    simp only [ok, Bool.and_eq_true] at hk
    cases r
    obtain ⟨_, its, rv, o, e, h1, n, h2⟩ := Inv.rdL I (.inl (.inl ha))
    obtain ⟨as, hr⟩ := RepL.reads I _ _ its hk.2 q rv
    exact ⟨_, Reads.list e h1 h2 hr⟩
end

/-! ### ends -/
section
variable {X : Cx} {R : Res} {pins : List (Addr × Obj)} {σ : St} {H : Hp} {s : Shared} {Q : D → Prop}
theorem fin_int {i : Int} {t t' : Nat} (I : Inv X pins σ H s) (q : Q (.int i)) : EP X pins σ (LQ X.K R H Q) (.int i t) { s with toks := t' } := ⟨.int i, H, I.tok _, ⟨_, rfl⟩, Go.refl H, _, .int i, q⟩
theorem fin_bool {b : Bool} (I : Inv X pins σ H s) (q : Q (.bl b)) : EP X pins σ (LQ X.K R H Q) (.bool b) s := ⟨.bl b, H, I, rfl, Go.refl H, _, .bl b, q⟩
theorem fin_str {z : List Nat} {t t' : Nat} (I : Inv X pins σ H s) (q : Q (.str z)) : EP X pins σ (LQ X.K R H Q) (.str (mkS z) t) { s with toks := t' } := ⟨.str (mkS z), H, I.tok _, ⟨_, rfl⟩, Go.refl H, _, .str z, q⟩
theorem fin_rep {v : V} {u : Value} {d : D} (I : Inv X pins σ H s) (rv : RelV v u) (r : Rep X.K H v d) (q : Q d) : EP X pins σ (LQ X.K R H Q) u s := ⟨v, H, I, rv, Go.refl H, d, r, q⟩
end

/-! ### operators -/
def sz (n : Nat) : Prop := n ≤ 10000000
theorem sz_line {n : Nat} (h : sz n) : n ≤ sizeLine := by rw [sizeLine_eq]; unfold sz at h; omega
section
variable {X : Cx} {R : Res}
theorem DOp.of {f : Value → Value → Sem Value} {r : R2} {o : Op2} (h : OpR X f r) (k : ∀ (H : Hp) (x y : V) (dx dy : D) (Q : D → Prop), R.inv H → RepB X.K R H x dx → RepB X.K R H y dy → o dx dy Q → r x y H (LQ X.K R H Q)) : DOp X R f o :=
  fun pins s σ H x y v u dx dy Q I iH rx ry px py ho => h pins s σ H x y v u _ I rx ry (k H x y dx dy Q iH px py ho)
def oAdd : Op2
  | .int i, .int j, Q => Q (.int (i + j))
  | .str a, .str b, Q => sz (a.length + b.length) ∧ Q (.str (a ++ b))
  | .tup a, .tup b, Q => sz (a.length + b.length) ∧ Q (.tup (a ++ b))
  | _, _, _ => False
theorem mkS_app (a b : List Nat) : mkS a ++ mkS b = mkS (a ++ b) := by
  show Str.mk (a.toArray ++ b.toArray) = _
  simp
theorem op_Add : DOp X R (binaryOp .Add) oAdd := by
  intro pins s σ H x y v u dx dy Q I iH rx ry px py h
  unfold oAdd at h
  split at h
  · have e1 := px.int; have e2 := py.int
    subst e1; subst e2
    exact op_add pins s σ H _ _ v u _ I rx ry ⟨_, _, rfl, rfl, Go.refl H, _, .int _, h⟩
  · have e1 := px.str; have e2 := py.str
    subst e1; subst e2
    refine op_add_str pins s σ H _ _ v u _ I rx ry ⟨_, _, rfl, rfl, ?_, ?_⟩
    · exact sz_line (by simpa [Str.length] using h.1)
    · rw [mkS_app]; exact ⟨Go.refl H, _, .str _, h.2⟩
  · obtain ⟨a, vs, rfl, ha, ra⟩ := px.tup
    obtain ⟨b, ws, rfl, hb, rb⟩ := py.tup
    have l1 := ra.length; have l2 := rb.length
    refine op_catA pins s σ H _ _ v u _ I rx ry ⟨a, b, vs, ws, rfl, rfl, ha, hb, sz_line (by rw [l1, l2]; exact h.1), fun e => ?_, fun e1 e2 => ?_, fun e1 e2 p n => ?_⟩
    · subst e
      cases ra
      exact ⟨Go.refl H, _, .tup hb rb, by simpa using h.2⟩
    · subst e2
      cases rb
      exact ⟨Go.refl H, _, .tup ha ra, by simpa using h.2⟩
    · have g : Go R H (upd H p (.tup (vs ++ ws))) := Go.new n iH
      exact ⟨g, _, .tup (SqT.of upd_same) ((ra.append rb).ext (g.ext iH)), h.2⟩
  · exact h.elim
def oSub : Op2
  | .int i, .int j, Q => Q (.int (i - j))
  | _, _, _ => False
theorem op_Sub : DOp X R (binaryOp .Sub) oSub := DOp.of op_sub fun H x y dx dy Q iH px py h => by
  unfold oSub at h
  split at h
  · have e1 := px.int; have e2 := py.int
    exact ⟨_, _, e1, e2, Go.refl H, _, .int _, h⟩
  · exact h.elim
/-- the product of ints, one of them below 2 ^ 64 -/
def oMul : Op2
  | .int i, .int j, Q => CMul i j ∧ Q (.int (i * j))
  | _, _, _ => False
theorem op_Mul : DOp X R (binaryOp .Mult) oMul := DOp.of op_mul fun H x y dx dy Q iH px py h => by
  unfold oMul at h
  split at h
  · have e1 := px.int; have e2 := py.int
    exact ⟨_, _, e1, e2, h.1, Go.refl H, _, .int _, h.2⟩
  · exact h.elim
def oMod : Op2
  | .int i, .int j, Q => 0 < j ∧ Q (.int (i % j))
  | _, _, _ => False
theorem op_Mod : DOp X R (binaryOp .Mod) oMod := DOp.of op_mod fun H x y dx dy Q iH px py h => by
  unfold oMod at h
  split at h
  · have e1 := px.int; have e2 := py.int
    exact ⟨_, _, e1, e2, h.1, Go.refl H, _, .int _, h.2⟩
  · exact h.elim
def oFdiv : Op2
  | .int i, .int j, Q => CDiv i j ∧ Q (.int (i / j))
  | _, _, _ => False
theorem op_Fdiv : DOp X R (binaryOp .FloorDiv) oFdiv := DOp.of op_fdiv fun H x y dx dy Q iH px py h => by
  unfold oFdiv at h
  split at h
  · have e1 := px.int; have e2 := py.int
    exact ⟨_, _, e1, e2, h.1, Go.refl H, _, .int _, h.2⟩
  · exact h.elim
def oPow : Op2
  | .int i, .int j, Q => CPow i j ∧ Q (.int (i ^ j.toNat))
  | _, _, _ => False
theorem op_Pow : DOp X R (binaryOp .Pow) oPow := DOp.of op_pow fun H x y dx dy Q iH px py h => by
  unfold oPow at h
  split at h
  · have e1 := px.int; have e2 := py.int
    exact ⟨_, _, e1, e2, h.1, Go.refl H, _, .int _, h.2⟩
  · exact h.elim
def dUn (o : D → (D → Prop) → Prop) (Ta : XE') : XE' := fun ρ Q => Ta ρ fun x => o x Q
def oNeg : D → (D → Prop) → Prop
  | .int i, Q => Q (.int (-i))
  | _, _ => False
theorem de_neg {a : Expr} {Ta : XE'} {pos : Pos} (ha : DE X R a Ta) : DE X R (.UnaryOp .USub a pos) (dUn oNeg Ta) :=
  DE.mk' (pe_un un_neg ha.pe) fun σ H H0 ρ Q i0 iH sl h => ⟨H0, ρ, _, i0, iH, sl, h, fun v H' ⟨g, d, rd, q⟩ => by
    cases d with
    | int i => cases rd; exact ⟨i, rfl, g, _, .int _, q⟩
    | _ => exact q.elim⟩
/-- list + list: a new one -/
def oCat : D → D → (List D → Prop) → Prop
  | .lst a, .lst b, Q => sz (a.length + b.length) ∧ Q (a ++ b)
  | _, _, _ => False
theorem op_Cat : DOpF X R (binaryOp .Add) oCat := by
  intro pins s σ H x y v u dx dy Q I iH rx ry px py h
  unfold oCat at h
  split at h
  · obtain ⟨a, vs, rfl, ha, ra⟩ := px.rd
    obtain ⟨b, ws, rfl, hb, rb⟩ := py.rd
    cases rx
    cases ry
    have l1 := ra.length; have l2 := rb.length
    obtain ⟨z, its, r, ⟨c1, dd1, t1, sl1⟩, e, k1, n, k2⟩ := Inv.rdL I ha
    obtain ⟨z2, its2, r2, ⟨c2, dd2, t2, sl2⟩, e2, k3, n2, k4⟩ := Inv.rdL I hb
    simp only at k1 k2 k3 k4
    subst k1 k2 k3 k4
    have hz := sz_line h.1
    have m1 := r.length; have m2 := r2.length
    refine PySem.concat_meets ⟨_, e, rfl⟩ ⟨_, e2, rfl⟩ PySem.noFill_list_add PySem.seq_list_add PySem.F.slot_list_add PySem.F.entry_list_add (PySem.F.args_list_add_2 _ _) (PyProof.Rows.list_addW a b its.toArray its2.toArray n n2 dd1 dd2 sl1 sl2 (by rw [List.size_toArray, List.size_toArray]; omega)) ⟨e, e2, ?_⟩
    have ea : its.toArray ++ its2.toArray = (its ++ its2).toArray := by simp
    rw [ea]
    have g : Go R H (upd H s.heap.objs.size (.lst (vs ++ ws))) := Go.new I.fresh iH
    exact ⟨.ref _, _, I.lnew (t' := s.toks) (r.append r2) (by rw [List.length_append]; omega), rfl, g, _, _, _, rfl, I.fresh, upd_same, (ra.append rb).ext (g.ext iH), h.2⟩
  · exact h.elim
/-- ==, != at any depth -/
def oEq : Op2 := fun x y Q => ok 60 x = true ∧ ok 60 y = true ∧ Q (.bl (deq x y))
def oNe : Op2 := fun x y Q => ok 60 x = true ∧ ok 60 y = true ∧ Q (.bl (!deq x y))
theorem shaped_ok {d : D} (h : ok 60 d = true) : SeqAt.shaped (toPy d) = true := by
  have := ok_lay h
  show ((toPy d).canLay0 && decide ((toPy d).depth ≤ 64)) = true
  rw [this.1, decide_eq_true (by omega)]
  rfl
theorem op_Eq (hu : X.A.units + 64 < cLine) : DOp X R (compareOp .Eq) oEq := by
  intro pins s σ H x y v u dx dy Q I iH rx ry px py ⟨h1, h2, q⟩
  obtain ⟨as, r1⟩ := RepB.reads I h1 px rx
  obtain ⟨bs, r2⟩ := RepB.reads I h2 py ry
  refine SeqAt.compareEq_shaped r1 r2 (shaped_ok h1) (shaped_ok h2) hu ?_
  rw [eqv_deq h1 h2]
  exact fin_bool I q
theorem op_Ne (hu : X.A.units + 64 < cLine) : DOp X R (compareOp .NotEq) oNe := by
  intro pins s σ H x y v u dx dy Q I iH rx ry px py ⟨h1, h2, q⟩
  obtain ⟨as, r1⟩ := RepB.reads I h1 px rx
  obtain ⟨bs, r2⟩ := RepB.reads I h2 py ry
  refine SeqAt.compareNe_shaped r1 r2 (shaped_ok h1) (shaped_ok h2) hu ?_
  rw [eqv_deq h1 h2]
  exact fin_bool I q
/-- <, >, <=, >= -/
def oLt : Op2 := fun x y Q => ok 60 x = true ∧ ok 60 y = true ∧ cmk x y = true ∧ x ≠ .non ∧ Q (.bl (dlt x y))
def oGt : Op2 := fun x y Q => ok 60 x = true ∧ ok 60 y = true ∧ alk x y = true ∧ x ≠ .non ∧ Q (.bl (dlt y x))
def oLe : Op2 := fun x y Q => ok 60 x = true ∧ ok 60 y = true ∧ alk x y = true ∧ x ≠ .non ∧ Q (.bl (!dlt y x))
def oGe : Op2 := fun x y Q => ok 60 x = true ∧ ok 60 y = true ∧ alk x y = true ∧ x ≠ .non ∧ Q (.bl (!dlt x y))
theorem toPy_none {n : Nat} {x : D} (h : ok n x = true) (hn : x ≠ .non) : toPy x ≠ .none := by
  cases x <;> first | exact absurd rfl hn | (simp [ok] at h; done) | (simp only [toPy]; intro z; cases z)
mutual
theorem alk_comm : ∀ x y : D, alk x y = alk y x
  | .non, y => by cases y <;> rfl
  | .bl _, y => by cases y <;> rfl
  | .int _, y => by cases y <;> rfl
  | .str _, y => by cases y <;> rfl
  | .tup xs, y => by cases y <;> first | rfl | (simp only [alk]; exact alks_comm _ _)
  | .lst xs, y => by cases y <;> first | rfl | (simp only [alk]; exact alks_comm _ _)
  | .dic _, y => by cases y <;> rfl
  | .raw _, y => by cases y <;> rfl
theorem alks_comm : ∀ xs ys : List D, alks xs ys = alks ys xs
  | [], ys => by cases ys <;> rfl
  | _ :: _, [] => rfl
  | x :: xs, y :: ys => by simp only [alks]; rw [alk_comm x y, alks_comm xs ys]
end
theorem alk_non {x y : D} (h : alk x y = true) (hn : x ≠ .non) : y ≠ .non := by
  rintro rfl
  cases x <;> first | exact hn rfl | (simp [alk] at h)
theorem room60 {x y : D} (hu : X.A.units + 64 < cLine) (h1 : ok 60 x = true) : X.A.units + min (toPy x).depth (toPy y).depth < cLine := by
  have := (ok_lay h1).2
  have := Nat.min_le_left (toPy x).depth (toPy y).depth
  omega
theorem op_Lt (hu : X.A.units + 64 < cLine) : DOp X R (compareOp .Lt) oLt := by
  intro pins s σ H x y v u dx dy Q I iH rx ry px py ⟨h1, h2, h3, h4, q⟩
  obtain ⟨as, r1⟩ := RepB.reads I h1 px rx
  obtain ⟨bs, r2⟩ := RepB.reads I h2 py ry
  refine DW.rc_w 60 _ _ _ _ _ _ as bs (ok_lay h1).2 r1 r2 (ok_lay h1).1 (ok_lay h2).1 (by rw [cmk_py h1 h2]; exact h3) (toPy_none h1 h4) (by omega) _ _ _ _ ?_
  rw [wlt_dlt h1 h2 h3 h4]
  exact fin_bool I q
theorem op_Gt (hu : X.A.units + 64 < cLine) : DOp X R (compareOp .Gt) oGt := by
  intro pins s σ H x y v u dx dy Q I iH rx ry px py ⟨h1, h2, h3, h4, q⟩
  obtain ⟨as, r1⟩ := RepB.reads I h1 px rx
  obtain ⟨bs, r2⟩ := RepB.reads I h2 py ry
  refine W.gt_data r1 r2 (by rw [alk_alike h1 h2]; exact h3) (toPy_none h1 h4) (room60 hu h1) ?_
  rw [lt_dlt h2 h1 (by rw [alk_comm]; exact h3) (alk_non h3 h4)]
  exact fin_bool I q
theorem op_Le (hu : X.A.units + 64 < cLine) : DOp X R (compareOp .LtE) oLe := by
  intro pins s σ H x y v u dx dy Q I iH rx ry px py ⟨h1, h2, h3, h4, q⟩
  obtain ⟨as, r1⟩ := RepB.reads I h1 px rx
  obtain ⟨bs, r2⟩ := RepB.reads I h2 py ry
  refine W.le_data r1 r2 (by rw [alk_alike h1 h2]; exact h3) (toPy_none h1 h4) (room60 hu h1) ?_
  rw [lt_dlt h2 h1 (by rw [alk_comm]; exact h3) (alk_non h3 h4)]
  exact fin_bool I q
theorem op_Ge (hu : X.A.units + 64 < cLine) : DOp X R (compareOp .GtE) oGe := by
  intro pins s σ H x y v u dx dy Q I iH rx ry px py ⟨h1, h2, h3, h4, q⟩
  obtain ⟨as, r1⟩ := RepB.reads I h1 px rx
  obtain ⟨bs, r2⟩ := RepB.reads I h2 py ry
  refine W.ge_data r1 r2 (by rw [alk_alike h1 h2]; exact h3) (toPy_none h1 h4) (room60 hu h1) ?_
  rw [lt_dlt h1 h2 h3 h4]
  exact fin_bool I q
def isRaw : D → Bool
  | .raw _ => true
  | _ => false
def isNon : D → Bool
  | .non => true
  | _ => false
/-- is None, is not None -/
def dIsN (Ta : XE') : XE' := fun ρ Q => Ta ρ fun d => isRaw d = false ∧ Q (.bl (isNon d))
def dNotN (Ta : XE') : XE' := fun ρ Q => Ta ρ fun d => isRaw d = false ∧ Q (.bl (!isNon d))
theorem Rep.isNon {K : PySem.W.Frag} {H : Hp} {v : V} {d : D} (r : Rep K H v d) (h : isRaw d = false) : decide (v = .non) = DL.isNon d := by
  cases r <;> first | rfl | (simp [isRaw] at h) | (simp [DL.isNon])
theorem de_isN {a : Expr} {Ta : XE'} {pos j pos'} (ha : DE X R a Ta) : DE X R (.Compare a [.Is] [.Constant .none j pos'] pos) (dIsN Ta) :=
  DE.mk' (pe_cmp (pc_isN ha.pe) rfl) fun σ H H0 ρ Q i0 iH sl h => ⟨H0, ρ, _, i0, iH, sl, h, fun v H' ⟨g, d, rd, hr, q⟩ => ⟨g, _, .bl _, by rw [rd.isNon hr]; exact q⟩⟩
theorem de_notN {a : Expr} {Ta : XE'} {pos j pos'} (ha : DE X R a Ta) : DE X R (.Compare a [.IsNot] [.Constant .none j pos'] pos) (dNotN Ta) :=
  DE.mk' (pe_cmp (pc_notN ha.pe) rfl) fun σ H H0 ρ Q i0 iH sl h => ⟨H0, ρ, _, i0, iH, sl, h, fun v H' ⟨g, d, rd, hr, q⟩ => ⟨g, _, .bl _, by rw [rd.isNon hr]; exact q⟩⟩

/-! ### subscripts -/
def atN {α : Type} (xs : List α) (i : Int) : Option α := atI xs i
/-- an item -/
def oIx : Op2
  | .lst xs, .int i, Q => ∃ d, atI xs i = some d ∧ Q d
  | .tup xs, .int i, Q => ∃ d, atI xs i = some d ∧ Q d
  | .str z, .int i, Q => sz z.length ∧ ∃ c, atI z i = some c ∧ Q (.str [c])
  | _, _, _ => False
theorem atI_rep {K : PySem.W.Frag} {H : Hp} {vs : List V} {ds : List D} {i : Int} {d : D} (r : RepL K H vs ds) (h : atI ds i = some d) : ∃ v, atI vs i = some v ∧ Rep K H v d := by
  unfold atI at h ⊢
  rw [r.length]
  cases e : ixN ds.length i with
  | none => rw [e] at h; cases h
  | some j =>
    rw [e] at h
    exact r.get h
theorem de_ix {a b : Expr} {Ta Tb : XE'} {pos : Pos} (ha : DB X R a Ta) (hb : DE X R b Tb) (hs : PlainIx b) : DE X R (.Subscript a b pos) (dBin oIx Ta Tb) := by
  refine DE.mk' (pe_ix ix_seq ha.pe hb.pe hs) fun σ H H0 ρ Q i0 iH sl h => ⟨H0, ρ, _, i0, iH, sl, h, fun v H1 ⟨g, d, rd, q⟩ => ⟨H0, ρ, _, i0, g.inv iH, sl.go i0 iH g, q, fun w H2 ⟨g2, e, re, q2⟩ => ?_⟩⟩
  have rd2 := rd.go (g.inv iH) g2
  have g12 := g.trans g2
  have q2 : oIx d e Q := q2
  unfold oIx at q2
  split at q2
  · obtain ⟨y, hy, q3⟩ := q2
    obtain ⟨a, vs, e1, hl, rs⟩ := rd2.lst (K := X.K)
    obtain ⟨yv, hyv, ry⟩ := atI_rep rs hy
    cases re
    exact .inl ⟨a, vs, _, yv, e1, rfl, hl, hyv, g12, y, ry, q3⟩
  · obtain ⟨y, hy, q3⟩ := q2
    obtain ⟨a, vs, e1, hl, rs⟩ := rd2.tup
    obtain ⟨yv, hyv, ry⟩ := atI_rep rs hy
    cases re
    exact .inr (.inl ⟨a, vs, _, yv, e1, rfl, hl, hyv, g12, y, ry, q3⟩)
  · obtain ⟨hz, c, hc, q3⟩ := q2
    have e1 := rd2.str
    cases re
    exact .inr (.inr ⟨_, _, c, e1, rfl, sz_line (by simpa [Str.length] using hz), by simpa using hc, g12, _, .str [c], q3⟩)
  · exact q2.elim
/-! slices -/
abbrev XO := En → (Option Int → Prop) → Prop
def dNoP : XO := fun _ Q => Q none
def dPart (T : XE') : XO := fun ρ Q => T ρ fun d => ∃ i, d = .int i ∧ Q (some i)
structure DO (X : Cx) (R : Res) (e : Option Expr) (T : XO) : Prop where
  run : ∀ (pins : List (Addr × Obj)) (s : Shared) (σ : St) (H H0 : Hp) (ρ : En) (Q : Option Int → Prop), Inv X pins σ H s → R.inv H0 → R.inv H → Sl X.K H0 H σ ρ → T ρ Q →
    wpAny (model X.prog X.w) X.A (evalPart e X.env) (fun u s' => ∃ o H', Inv X pins σ H' s' ∧ IsPart u o ∧ Go R H H' ∧ Q o) X.xe s
def toO (X : Cx) (R : Res) (T : XO) : TO := fun σ H Q => ∃ (H0 : Hp) (ρ : En) (Q' : Option Int → Prop), R.inv H0 ∧ R.inv H ∧ Sl X.K H0 H σ ρ ∧ T ρ Q' ∧ ∀ o H', Go R H H' → Q' o → Q o H'
theorem DO.po {e : Option Expr} {T : XO} (h : DO X R e T) : PO X e (toO X R T) := ⟨fun pins s σ H Q I ⟨H0, ρ, Q', i0, iH, sl, hT, k⟩ => thn (h.run pins s σ H H0 ρ Q' I i0 iH sl hT) fun _ _ ⟨o, H', I', p, g, q⟩ => ⟨o, H', I', p, k _ _ g q⟩⟩
theorem do_none : DO X R none dNoP := ⟨fun pins s σ H H0 ρ Q I i0 iH sl h => po_none.run pins s σ H (fun o H' => Go R H H' ∧ Q o) I ⟨Go.refl H, h⟩⟩
theorem do_some {e : Expr} {T : XE'} (h : DE X R e T) : DO X R (some e) (dPart T) :=
  ⟨fun pins s σ H H0 ρ Q I i0 iH sl hT => (po_some h.pe).run pins s σ H (fun o H' => Go R H H' ∧ Q o) I ⟨H0, ρ, _, i0, iH, sl, hT, fun v H' ⟨g, d, rd, i, e, q⟩ => by subst e; cases rd; exact ⟨i, rfl, g, q⟩⟩⟩
def cutL {α : Type} (xs : List α) (lo hi : Option Int) : List α := (xs.drop (HT.sIx xs.length 0 lo)).take (HT.sIx xs.length xs.length hi - HT.sIx xs.length 0 lo)
/-- a slice of a text, a tuple -/
def oCut : D → Option Int → Option Int → (D → Prop) → Prop
  | .str z, lo, hi, Q => sz z.length ∧ Q (.str (cutL z lo hi))
  | .tup xs, lo, hi, Q => Q (.tup (cutL xs lo hi))
  | _, _, _, _ => False
def dCut (Te : XE') (Tl Th : XO) : XE' := fun ρ Q => Te ρ fun d => Tl ρ fun lo => Th ρ fun hi => oCut d lo hi Q
theorem cut_rep {K : PySem.W.Frag} {H : Hp} {vs : List V} {ds : List D} (r : RepL K H vs ds) (lo hi : Option Int) : RepL K H (cutV vs lo hi) (cutL ds lo hi) := by
  unfold cutV cutL
  rw [r.length]
  exact (r.drop _).take _
theorem cutS_mk (z : List Nat) (lo hi : Option Int) : cutS (mkS z) lo hi = mkS (cutL z lo hi) := by
  have e : (mkS z).length = z.length := by simp [Str.length]
  unfold cutS cutL
  rw [e]
theorem de_cut {e : Expr} {lo hi : Option Expr} {Te : XE'} {Tl Th : XO} {p2 pos : Pos} (he : DE X R e Te) (hl : DO X R lo Tl) (hh : DO X R hi Th) : DE X R (.Subscript e (.Slice lo hi none p2) pos) (dCut Te Tl Th) := by
  refine DE.mk' (pe_slice (sl_str.or sl_tupA) he.pe hl.po hh.po) fun σ H H0 ρ Q i0 iH sl h => ⟨H0, ρ, _, i0, iH, sl, h, fun v H1 ⟨g, d, rd, q⟩ => ⟨H0, ρ, _, i0, g.inv iH, sl.go i0 iH g, q, fun l H2 g2 q2 => ⟨H0, ρ, _, i0, g2.inv (g.inv iH), sl.go i0 iH (g.trans g2), q2, fun u H3 g3 q3 => ?_⟩⟩⟩
  have i1 := g.inv iH
  have i3 := g3.inv (g2.inv i1)
  have g13 := g.trans (g2.trans g3)
  have rd3 := rd.ext ((g2.trans g3).ext i1)
  have q3 : oCut d l u Q := q3
  unfold oCut at q3
  split at q3
  · cases rd3
    refine .inl ⟨_, rfl, sz_line (by simpa [Str.length] using q3.1), ?_⟩
    rw [cutS_mk]
    exact ⟨g13, _, .str _, q3.2⟩
  · rename_i xs _
    cases rd3 with
    | @tup a0 vs0 ds0 ht rs =>
      refine .inr ⟨_, _, rfl, ht, fun hw => ?_, fun hw p n => ?_⟩
      · refine ⟨g13, _, .tup ht rs, ?_⟩
        have e := rs.length
        have : cutL xs l u = xs := by
          unfold cutL
          rw [e] at hw
          rw [hw.1, hw.2]
          simp
        rw [this] at q3
        exact q3
      · have gp : Go R H3 (upd H3 p (.tup (cutV vs0 l u))) := Go.new n i3
        exact ⟨g13.trans gp, _, .tup (SqT.of upd_same) ((cut_rep rs l u).ext (gp.ext i3)), q3⟩
  · exact q3.elim
/-- a slice of a list: a new one -/
def dCutF (Te : XE') (Tl Th : XO) : XL' := fun ρ Q => Te ρ fun d => Tl ρ fun lo => Th ρ fun hi => ∃ xs, d = .lst xs ∧ Q (cutL xs lo hi)
theorem df_cut {e : Expr} {lo hi : Option Expr} {Te : XE'} {Tl Th : XO} {p2 pos : Pos} (he : DB X R e Te) (hl : DO X R lo Tl) (hh : DO X R hi Th) : DF X R (.Subscript e (.Slice lo hi none p2) pos) (dCutF Te Tl Th) := by
  refine DF.mk' (pe_slice sl_list he.pe hl.po hh.po) fun σ H H0 ρ Q i0 iH sl h => ⟨H0, ρ, _, i0, iH, sl, h, fun v H1 ⟨g, d, rd, q⟩ => ⟨H0, ρ, _, i0, g.inv iH, sl.go i0 iH g, q, fun l H2 g2 q2 => ⟨H0, ρ, _, i0, g2.inv (g.inv iH), sl.go i0 iH (g.trans g2), q2, fun u H3 g3 ⟨xs, e, q3⟩ => ?_⟩⟩⟩
  have i1 := g.inv iH
  have i3 := g3.inv (g2.inv i1)
  have g13 := g.trans (g2.trans g3)
  subst e
  have rd3 := rd.go i1 (g2.trans g3)
  obtain ⟨a, vs, e1, hq, rs⟩ := rd3.lst (K := X.K)
  refine ⟨a, vs, e1, hq, fun p n => ?_⟩
  have gp : Go R H3 (upd H3 p (.lst (cutV vs l u))) := Go.new n i3
  exact ⟨g13.trans gp, p, _, _, rfl, g13.none_of iH n, upd_same, (cut_rep rs l u).ext (gp.ext i3), q3⟩

/-! ### calls of built-ins -/
abbrev Bf := List D → (D → Prop) → Prop
def DCall (X : Cx) (R : Res) (f : Value) (r : Bf) : Prop :=
  ∀ (pins : List (Addr × Obj)) (s : Shared) (σ : St) (H : Hp) (xs : List V) (us : List Value) (ds : List D) (Q : D → Prop), Inv X pins σ H s → R.inv H → Vals xs us → RepBL X.K R H xs ds → r ds Q →
    wpAny (model X.prog X.w) X.A (call f us) (EP X pins σ (LQ X.K R H Q)) X.xe s
def DCallF (X : Cx) (R : Res) (f : Value) (r : List D → (List D → Prop) → Prop) : Prop :=
  ∀ (pins : List (Addr × Obj)) (s : Shared) (σ : St) (H : Hp) (xs : List V) (us : List Value) (ds : List D) (Q : List D → Prop), Inv X pins σ H s → R.inv H → Vals xs us → RepBL X.K R H xs ds → r ds Q →
    wpAny (model X.prog X.w) X.A (call f us) (EP X pins σ (LF X.K R H Q)) X.xe s
def dB (r : Bf) (T : XL') : XE' := fun ρ Q => T ρ fun ds => r ds Q
def dBF (r : List D → (List D → Prop) → Prop) (T : XL') : XL' := fun ρ Q => T ρ fun ds => r ds Q
section
variable {x : Str} {p pos : Pos} {e : Expr} {es : List Expr} {T : XL'} {id Ty : String} {r : Bf} {rF : List D → (List D → Prop) → Prop}
theorem callR_of (h : DCall X R (.builtin id) r) : CallR X (.builtin id) (fun xs H Q => ∃ ds Q', R.inv H ∧ RepBL X.K R H xs ds ∧ r ds Q' ∧ ∀ v H', LQ X.K R H Q' v H' → Q v H') := fun pins s σ H xs us Q I rv ⟨ds, Q', iH, rb, hr, k⟩ => thn (h pins s σ H xs us ds Q' I iH rv rb hr) fun _ _ q => EP.imp q k
theorem callR_ofT (h : DCall X R (.type Ty) r) : CallR X (.type Ty) (fun xs H Q => ∃ ds Q', R.inv H ∧ RepBL X.K R H xs ds ∧ r ds Q' ∧ ∀ v H', LQ X.K R H Q' v H' → Q v H') := fun pins s σ H xs us Q I rv ⟨ds, Q', iH, rb, hr, k⟩ => thn (h pins s σ H xs us ds Q' I iH rv rb hr) fun _ _ q => EP.imp q k
theorem callRF_of (h : DCallF X R (.builtin id) rF) : CallR X (.builtin id) (fun xs H Q => ∃ ds Q', R.inv H ∧ RepBL X.K R H xs ds ∧ rF ds Q' ∧ ∀ v H', LF X.K R H Q' v H' → Q v H') := fun pins s σ H xs us Q I rv ⟨ds, Q', iH, rb, hr, k⟩ => thn (h pins s σ H xs us ds Q' I iH rv rb hr) fun _ _ q => EP.imp q k
theorem callRF_ofT (h : DCallF X R (.type Ty) rF) : CallR X (.type Ty) (fun xs H Q => ∃ ds Q', R.inv H ∧ RepBL X.K R H xs ds ∧ rF ds Q' ∧ ∀ v H', LF X.K R H Q' v H' → Q v H') := fun pins s σ H xs us Q I rv ⟨ds, Q', iH, rb, hr, k⟩ => thn (h pins s σ H xs us ds Q' I iH rv rb hr) fun _ _ q => EP.imp q k
theorem de_b (hc : DCall X R (.builtin id) r) (hg : Gl X x) (hm : X.mg x = none) (hv : bootBuiltins x = some (.builtin id)) (ha : DAB X R (e :: es) T) (hn : x ≠ "__name__" := by decide) (hdb : (x == ("__debug__" : Str)) = false := by decide)
    (he : starEach (e :: es) X.env = (false, eval e X.env) :: starEach es X.env := by rfl) (hpl : (backTo pos (starEach es X.env)).any (·.1) = false := by rfl) : DE X R (.Call (.Name x p) (e :: es) [] pos) (dB r T) :=
  DE.mk' (pe_callB (callR_of hc) hg hm hv ha.pa hn hdb he hpl) fun σ H H0 ρ Q i0 iH sl h => ⟨H0, ρ, _, i0, iH, sl, h, fun vs H' ⟨g, ds, rb, q⟩ => ⟨ds, Q, g.inv iH, rb, q, LQ.go g⟩⟩
theorem de_bT (hc : DCall X R (.type Ty) r) (hg : Gl X x) (hm : X.mg x = none) (hv : bootBuiltins x = some (.type Ty)) (ha : DAB X R (e :: es) T) (hn : x ≠ "__name__" := by decide) (hdb : (x == ("__debug__" : Str)) = false := by decide)
    (he : starEach (e :: es) X.env = (false, eval e X.env) :: starEach es X.env := by rfl) (hpl : (backTo pos (starEach es X.env)).any (·.1) = false := by rfl) : DE X R (.Call (.Name x p) (e :: es) [] pos) (dB r T) :=
  DE.mk' (pe_callTy (callR_ofT hc) hg hm hv ha.pa hn hdb he hpl) fun σ H H0 ρ Q i0 iH sl h => ⟨H0, ρ, _, i0, iH, sl, h, fun vs H' ⟨g, ds, rb, q⟩ => ⟨ds, Q, g.inv iH, rb, q, LQ.go g⟩⟩
theorem df_b (hc : DCallF X R (.builtin id) rF) (hg : Gl X x) (hm : X.mg x = none) (hv : bootBuiltins x = some (.builtin id)) (ha : DAB X R (e :: es) T) (hn : x ≠ "__name__" := by decide) (hdb : (x == ("__debug__" : Str)) = false := by decide)
    (he : starEach (e :: es) X.env = (false, eval e X.env) :: starEach es X.env := by rfl) (hpl : (backTo pos (starEach es X.env)).any (·.1) = false := by rfl) : DF X R (.Call (.Name x p) (e :: es) [] pos) (dBF rF T) :=
  DF.mk' (pe_callB (callRF_of hc) hg hm hv ha.pa hn hdb he hpl) fun σ H H0 ρ Q i0 iH sl h => ⟨H0, ρ, _, i0, iH, sl, h, fun vs H' ⟨g, ds, rb, q⟩ => ⟨ds, Q, g.inv iH, rb, q, LF.go g iH⟩⟩
theorem df_bT (hc : DCallF X R (.type Ty) rF) (hg : Gl X x) (hm : X.mg x = none) (hv : bootBuiltins x = some (.type Ty)) (ha : DAB X R (e :: es) T) (hn : x ≠ "__name__" := by decide) (hdb : (x == ("__debug__" : Str)) = false := by decide)
    (he : starEach (e :: es) X.env = (false, eval e X.env) :: starEach es X.env := by rfl) (hpl : (backTo pos (starEach es X.env)).any (·.1) = false := by rfl) : DF X R (.Call (.Name x p) (e :: es) [] pos) (dBF rF T) :=
  DF.mk' (pe_callTy (callRF_ofT hc) hg hm hv ha.pa hn hdb he hpl) fun σ H H0 ρ Q i0 iH sl h => ⟨H0, ρ, _, i0, iH, sl, h, fun vs H' ⟨g, ds, rb, q⟩ => ⟨ds, Q, g.inv iH, rb, q, LF.go g iH⟩⟩
end
/-- a class's name as a value -/
theorem de_ty {x : Str} {n : String} {pos : Pos} (hg : Gl X x) (hm : X.mg x = none) (hv : bootBuiltins x = some (.type n)) (hn : x ≠ "__name__" := by decide) (hd : (x == ("__debug__" : Str)) = false := by decide) : DE X R (.Name x pos) (dC (.raw (.ty n))) :=
  DE.mk' (pe_bltn (v := .ty n) hg hm hv rfl hn hd) fun _ H _ _ _ _ _ _ q => ⟨Go.refl H, _, .raw _, q⟩
theorem RepBL.one {K : PySem.W.Frag} {H : Hp} {xs : List V} {d : D} (r : RepBL K R H xs [d]) : ∃ v, xs = [v] ∧ RepB K R H v d := by
  cases r with
  | cons r rr => cases rr; exact ⟨_, rfl, r⟩
theorem RepBL.two {K : PySem.W.Frag} {H : Hp} {xs : List V} {d e : D} (r : RepBL K R H xs [d, e]) : ∃ v w, xs = [v, w] ∧ RepB K R H v d ∧ RepB K R H w e := by
  cases r with
  | cons r rr => cases rr with
    | cons r2 rr => cases rr; exact ⟨_, _, rfl, r, r2⟩
/-- len -/
def bLen : Bf
  | [.lst xs], Q => Q (.int xs.length)
  | [.tup xs], Q => Q (.int xs.length)
  | [.str z], Q => sz z.length ∧ Q (.int z.length)
  | _, _ => False
theorem call_Len : DCall X R (.builtin "len") bLen := by
  intro pins s σ H xs us ds Q I iH rv rb h
  unfold bLen at h
  split at h
  · obtain ⟨v, rfl, r⟩ := rb.one
    obtain ⟨a, vs, rfl, hq, rs⟩ := r.lst (K := X.K)
    exact call_len_seq pins s σ H _ us _ I rv ⟨a, vs, rfl, .inl hq, Go.refl H, _, by rw [rs.length]; exact .int _, h⟩
  · obtain ⟨v, rfl, r⟩ := rb.one
    obtain ⟨a, vs, rfl, hq, rs⟩ := r.tup
    exact call_len_seq pins s σ H _ us _ I rv ⟨a, vs, rfl, .inr hq, Go.refl H, _, by rw [rs.length]; exact .int _, h⟩
  · obtain ⟨v, rfl, r⟩ := rb.one
    have e := r.str
    subst e
    have e2 : ∀ z : List Nat, (mkS z).length = z.length := fun z => by simp [Str.length]
    exact call_len_str pins s σ H _ us _ I rv ⟨_, rfl, by rw [e2]; exact sz_line h.1, Go.refl H, _, by rw [e2]; exact .int _, h.2⟩
  · exact h.elim
/-- tuple(list), tuple(tuple) -/
def bTuple : Bf
  | [.lst xs], Q => Q (.tup xs)
  | [.tup xs], Q => Q (.tup xs)
  | _, _ => False
theorem call_Tuple : DCall X R (.type "tuple") bTuple := by
  intro pins s σ H xs us ds Q I iH rv rb h
  unfold bTuple at h
  split at h
  · obtain ⟨v, rfl, r⟩ := rb.one
    obtain ⟨a, vs, rfl, hq, rs⟩ := r.lst (K := X.K)
    refine call_tuple_of pins s σ H _ us _ I rv ⟨a, vs, rfl, .inl ⟨hq, fun l n => ?_⟩⟩
    have g : Go R H (upd H l (.tup vs)) := Go.new n iH
    exact ⟨g, _, .tup (SqT.of upd_same) (rs.ext (g.ext iH)), h⟩
  · obtain ⟨v, rfl, r⟩ := rb.one
    obtain ⟨a, vs, rfl, hq, rs⟩ := r.tup
    exact call_tuple_of pins s σ H _ us _ I rv ⟨a, vs, rfl, .inr ⟨hq, Go.refl H, _, .tup hq rs, h⟩⟩
  · exact h.elim
/-- list(list), list(tuple): a new one -/
def bList : List D → (List D → Prop) → Prop
  | [.lst xs], Q => Q xs
  | [.tup xs], Q => Q xs
  | _, _ => False
theorem call_List : DCallF X R (.type "list") bList := by
  intro pins s σ H xs us ds Q I iH rv rb h
  unfold bList at h
  split at h
  · obtain ⟨v, rfl, r⟩ := rb.one
    obtain ⟨a, vs, rfl, hq, rs⟩ := r.lst (K := X.K)
    refine call_list_of pins s σ H _ us _ I rv ⟨a, vs, rfl, .inl hq, fun l n => ?_⟩
    have g : Go R H (upd H l (.lst vs)) := Go.new n iH
    exact ⟨g, l, _, _, rfl, n, upd_same, rs.ext (g.ext iH), h⟩
  · obtain ⟨v, rfl, r⟩ := rb.one
    obtain ⟨a, vs, rfl, hq, rs⟩ := r.tup
    refine call_list_of pins s σ H _ us _ I rv ⟨a, vs, rfl, .inr hq, fun l n => ?_⟩
    have g : Go R H (upd H l (.lst vs)) := Go.new n iH
    exact ⟨g, l, _, _, rfl, n, upd_same, rs.ext (g.ext iH), h⟩
  · exact h.elim
/-- int(an int, a bool), abs, ord, min, max of two ints -/
def bInt : Bf
  | [.int i], Q => Q (.int i)
  | [.bl k], Q => Q (.int (if k then 1 else 0))
  | _, _ => False
theorem call_Int : DCall X R (.type "int") bInt := by
  intro pins s σ H xs us ds Q I iH rv rb h
  unfold bInt at h
  split at h
  · obtain ⟨v, rfl, r⟩ := rb.one
    have e := r.int; subst e
    exact call_int1 pins s σ H _ us _ I rv (.inl ⟨_, rfl, Go.refl H, _, .int _, h⟩)
  · obtain ⟨v, rfl, r⟩ := rb.one
    have e := r.bl; subst e
    exact call_int1 pins s σ H _ us _ I rv (.inr ⟨_, rfl, Go.refl H, _, .int _, h⟩)
  · exact h.elim
def bAbs : Bf
  | [.int i], Q => Q (.int (if i < 0 then -i else i))
  | _, _ => False
theorem call_Abs : DCall X R (.builtin "abs") bAbs := by
  intro pins s σ H xs us ds Q I iH rv rb h
  unfold bAbs at h
  split at h
  · obtain ⟨v, rfl, r⟩ := rb.one
    have e := r.int; subst e
    exact call_abs pins s σ H _ us _ I rv ⟨_, rfl, Go.refl H, _, .int _, h⟩
  · exact h.elim
def bOrd : Bf
  | [.str [c]], Q => Q (.int c)
  | _, _ => False
theorem call_Ord : DCall X R (.builtin "ord") bOrd := by
  intro pins s σ H xs us ds Q I iH rv rb h
  unfold bOrd at h
  split at h
  · obtain ⟨v, rfl, r⟩ := rb.one
    have e := r.str; subst e
    exact call_ord pins s σ H _ us _ I rv ⟨_, rfl, rfl, Go.refl H, _, .int _, h⟩
  · exact h.elim
def bMin : Bf
  | [.int i, .int j], Q => Q (.int (if j < i then j else i))
  | _, _ => False
theorem call_Min (hc : X.calm = true) : DCall X R (.builtin "min") bMin := by
  intro pins s σ H xs us ds Q I iH rv rb h
  unfold bMin at h
  split at h
  · obtain ⟨v, w, rfl, r, r2⟩ := rb.two
    have e := r.int; subst e
    have e := r2.int; subst e
    exact call_min2 hc pins s σ H _ us _ I rv ⟨_, _, rfl, Go.refl H, _, .int _, h⟩
  · exact h.elim
def bMax : Bf
  | [.int i, .int j], Q => Q (.int (if j > i then j else i))
  | _, _ => False
theorem call_Max (hc : X.calm = true) : DCall X R (.builtin "max") bMax := by
  intro pins s σ H xs us ds Q I iH rv rb h
  unfold bMax at h
  split at h
  · obtain ⟨v, w, rfl, r, r2⟩ := rb.two
    have e := r.int; subst e
    have e := r2.int; subst e
    exact call_max2 hc pins s σ H _ us _ I rv ⟨_, _, rfl, Go.refl H, _, .int _, h⟩
  · exact h.elim
/-- isinstance of a built-in class -/
def isA (n : String) : D → Bool
  | .non => n == "NoneType"
  | .bl _ => n == "bool" || n == "int"
  | .int _ => n == "int"
  | .str _ => n == "str"
  | .tup _ => n == "tuple"
  | .lst _ => n == "list"
  | .dic _ => n == "dict"
  | .raw _ => false
def isaNames : List String := ["bool", "int", "str", "tuple", "list", "dict"]
def bIsa : Bf
  | [d, .raw (.ty n)], Q => isRaw d = false ∧ n ∈ isaNames ∧ Q (.bl (isA n d))
  | _, _ => False
theorem tyx_of {K : PySem.W.Frag} {H : Hp} {v : V} {d : D} (r : RepB K R H v d) (h : isRaw d = false) : ∃ t : String, TyX K H v (.type t) ∧ ∀ n ∈ isaNames, kitB t n = some (isA n d) := by
  have all : ∀ (t : String), t ∈ ["NoneType", "bool", "int", "str", "tuple", "list", "dict"] → ∀ n ∈ isaNames, kitB t n = some (n == t || (t == "bool" && n == "int")) := by
    intro t ht n hn
    simp only [isaNames, List.mem_cons, List.not_mem_nil, or_false] at ht hn
    rcases ht with rfl | rfl | rfl | rfl | rfl | rfl | rfl <;> rcases hn with rfl | rfl | rfl | rfl | rfl | rfl <;> decide +kernel
  have fin : ∀ (t : String), t ∈ ["NoneType", "bool", "int", "str", "tuple", "list", "dict"] → (∀ n, isA n d = (n == t || (t == "bool" && n == "int"))) → ∀ n ∈ isaNames, kitB t n = some (isA n d) := fun t ht e n hn => by rw [all t ht n hn, e]
  cases r with
  | of r => cases r with
    | non => exact ⟨"NoneType", .base .non, fin _ (by simp) fun n => by simp [isA]⟩
    | bl b => exact ⟨"bool", .base (.bl b), fin _ (by simp) fun n => by simp [isA]⟩
    | int i => exact ⟨"int", .base (.int i), fin _ (by simp) fun n => by simp [isA]⟩
    | str z => exact ⟨"str", .base (.str _), fin _ (by simp) fun n => by simp [isA]⟩
    | tup ht _ =>
      refine ⟨"tuple", ?_, fin _ (by simp) fun n => by simp [isA]⟩
      rcases ht with (q | ⟨o, q⟩) | ⟨o, its, n, q, hc, _⟩
      · exact .base (.tup q)
      · exact .fTuple q
      · exact .kTuple q hc
    | lst hl _ =>
      refine ⟨"list", ?_, fin _ (by simp) fun n => by simp [isA]⟩
      rcases hl with ⟨o, q⟩ | ((q | ⟨o, q⟩) | ⟨o, its, n, q, hc, _⟩)
      · exact .base (.frz q)
      · cases q
      · cases q
      · exact .kList q hc
    | dic q _ _ => exact ⟨"dict", .fDict q, fin _ (by simp) fun n => by simp [isA]⟩
    | raw v => simp [isRaw] at h
  | own q _ _ => exact ⟨"list", .base (.lst q), fin _ (by simp) fun n => by simp [isA]⟩
theorem call_Isa : DCall X R (.builtin "isinstance") bIsa := by
  intro pins s σ H xs us ds Q I iH rv rb h
  unfold bIsa at h
  split at h
  · obtain ⟨v, w, rfl, r, r2⟩ := rb.two
    have e := r2.raw; subst e
    obtain ⟨t, ty, k⟩ := tyx_of r h.1
    exact call_isi pins s σ H _ us _ I rv ⟨v, _, _, _, _, rfl, .ty _, ty, kit_ty (k _ h.2.1), Go.refl H, _, .bl _, h.2.2⟩
  · exact h.elim
/-- repr -/
def bRepr : Bf
  | [d], Q => ok 50 d = true ∧ sint d = true ∧ wt d ≤ 25000 ∧ Q (.str (shD d))
  | _, _ => False
theorem call_Repr (hgd : X.A.guards = some []) (hu : X.A.units + 64 < cLine) : DCall X R (.builtin "repr") bRepr := by
  intro pins s σ H xs us ds Q I iH rv rb h
  unfold bRepr at h
  split at h
  · rename_i d
    obtain ⟨v, rfl, r⟩ := rb.one
    obtain ⟨u, rfl, ru⟩ := vals1 rv
    obtain ⟨h1, h2, h3, q⟩ := h
    obtain ⟨as, rd⟩ := RepB.reads I h1 r ru
    have sh := shows_ok h1 h2
    have hz := shD_len h1 h2 h3
    have hd := (ok_lay h1).2
    have fin : ∀ h' t t', (∀ b o, s.heap.get? b = some o → h'.get? b = some o) → EP X pins σ (LQ X.K R H Q) (.str (toPy d).shown t) { s with heap := h', toks := t' } := fun h' t t' kp => by
      rw [← shD_mk]
      have I2 : Inv X pins σ H { s with heap := h', toks := t' } := I.kept kp
      exact ⟨.str (mkS (shD d)), H, I2, ⟨_, rfl⟩, Go.refl H, _, .str _, q⟩
    generalize toPy d = pd at rd sh hz hd fin
    cases rd with
    | none => exact P.repr_of_none (by simpa only [PyData.shown] using fin s.heap _ _ fun _ _ e => e)
    | bool b => exact P.repr_of_bool (by simpa only [PyData.shown] using fin s.heap _ _ fun _ _ e => e)
    | int i t => exact P.repr_of_int (by simpa [PyData.showable] using sh.1) (by simpa only [PyData.shown] using fin s.heap _ _ fun _ _ e => e)
    | str z t => exact P.repr_of_str (by simpa only [PyData.shown] using fin s.heap _ _ fun _ _ e => e) (by simpa only [PyData.shown] using hz)
    | list h1 h2 h3 h4 => exact repr_of_reads' (.list h1 h2 h3 h4) sh.1 (PyData.noDict_hsm sh.2.2) hgd (by omega) (fun _ _ e => e) (fun h' u tk k => fin h' u tk k) hz
    | tuple h1 h2 h3 h4 => exact repr_of_reads' (.tuple h1 h2 h3 h4) sh.1 (PyData.noDict_hsm sh.2.2) hgd (by omega) (fun _ _ e => e) (fun h' u tk k => fin h' u tk k) hz
    | dict h1 h2 h3 h4 h5 => exact absurd sh.2.2 (by simp [PyData.hasDict])
  · exact h.elim
end
end DL

namespace DL
open PySem PySem.Spec PyProof.Rows L2
section
variable {X : Cx} {R : Res}
/-! ### sorted -/
/-- the kind of a datum -/
def dkind : D → Nat
  | .non => 0
  | .bl _ => 1
  | .int _ => 2
  | .str _ => 3
  | .tup _ => 4
  | .lst _ => 5
  | .dic _ => 6
  | .raw _ => 7
/-- the kind of a tuple's first item -/
def fkind : D → Option Nat
  | .tup (x :: _) => some (dkind x)
  | _ => none
def isTup : D → Bool
  | .tup _ => true
  | _ => false
/-- tuples with first items of one kind, or no tuple and no None -/
def sortable (ds : List D) : Bool := (List.range 8).any (fun k => ds.all fun d => decide (fkind d = some k)) || ds.all fun d => !isTup d && (dkind d != 0)
def dle (x y : D) : Bool := !dlt y x
def bSorted : List D → (List D → Prop) → Prop
  | [.lst xs], Q => oks 50 xs = true ∧ (∀ x ∈ xs, ∀ y ∈ xs, cmk x y = true) ∧ sortable xs = true ∧ Q (xs.mergeSort dle)
  | _, _ => False
theorem eachIs_of {K : PySem.W.Frag} {H : Hp} : ∀ {vs : List V} {ds : List D} {us : List Value}, RepL K H vs ds → Vals vs us → W.EachIs (fun u d => ∃ v, RelV v u ∧ Rep K H v d) us ds
  | _, _, _, .nil, .nil => .nil
  | _, _, _, .cons h r, .cons q t => .cons ⟨_, q, h⟩ (eachIs_of r t)
theorem of_eachIs {K : PySem.W.Frag} {H : Hp} : ∀ {ds : List D} {us : List Value}, W.EachIs (fun u d => ∃ v, RelV v u ∧ Rep K H v d) us ds → ∃ vs, Vals vs us ∧ RepL K H vs ds
  | _, _, .nil => ⟨[], .nil, .nil⟩
  | _, _, .cons ⟨v, q, h⟩ r => by
    obtain ⟨vs, q2, h2⟩ := of_eachIs r
    exact ⟨v :: vs, .cons q q2, .cons h h2⟩
theorem sort_dle {n : Nat} {ds : List D} (hk : oks n ds = true) (ha : ∀ x ∈ ds, ∀ y ∈ ds, cmk x y = true) (hn : ∀ x ∈ ds, x ≠ .non) : ds.mergeSort (W.dataLe false toPy) = ds.mergeSort dle := by
  refine W.sort_congr fun x hx y hy => ?_
  rw [W.dataLe_eq]
  show (!W.dataLt (toPy y) (toPy x)) = _
  rw [dataLt_dlt (oks_iff.mp hk y hy) (oks_iff.mp hk x hx) (ha y hy x hx) (hn y hy)]
  rfl
theorem srt_non {ds : List D} (h : sortable ds = true) : ∀ x ∈ ds, x ≠ .non := by
  unfold sortable at h
  rw [Bool.or_eq_true] at h
  intro x hx e
  subst e
  rcases h with h | h
  · obtain ⟨k, _, q⟩ := List.any_eq_true.mp h
    have := List.all_eq_true.mp q _ hx
    simp [fkind] at this
  · have := List.all_eq_true.mp h _ hx
    simp [dkind] at this
def tyOf : Nat → Value
  | 0 => .type "NoneType"
  | 1 => .type "bool"
  | 2 => .type "int"
  | 3 => .type "str"
  | 4 => .type "tuple"
  | _ => .type "list"
theorem ty_kind {n : Nat} {d : D} (h : ok n d = true) : W.dataType (toPy d) = tyOf (dkind d) := by
  cases d <;> first | rfl | (simp [ok] at h)
theorem srt_py {n : Nat} {ds : List D} (hk : oks n ds = true) (h : sortable ds = true) : DW.SortableW (ds.map toPy) := by
  have hn := srt_non h
  unfold sortable at h
  rw [Bool.or_eq_true] at h
  rcases h with h | h
  · obtain ⟨k, _, q⟩ := List.any_eq_true.mp h
    refine .inl ⟨tyOf k, fun d hd => ?_⟩
    obtain ⟨x, hx, rfl⟩ := List.mem_map.mp hd
    have h1 := List.all_eq_true.mp q _ hx
    have h2 := oks_iff.mp hk x hx
    cases x with
    | tup xs =>
      cases xs with
      | nil => simp [fkind] at h1
      | cons a r =>
        simp [fkind] at h1
        simp only [ok, oks, Bool.and_eq_true] at h2
        exact ⟨toPy a, toPys r, by simp only [toPy, toPys], by rw [ty_kind h2.2.1, h1]⟩
    | _ => simp [fkind] at h1
  · refine .inr fun d hd => ?_
    obtain ⟨x, hx, rfl⟩ := List.mem_map.mp hd
    have h2 := List.all_eq_true.mp h _ hx
    refine ⟨toPy_none (oks_iff.mp hk x hx) (hn x hx), fun xs e => ?_⟩
    cases x <;> first | (simp only [toPy] at e; cases e; done) | (simp [isTup] at h2)
theorem call_Sorted (hu : X.A.units + 64 < cLine) : DCallF X R (.builtin "sorted") bSorted := by
  intro pins s σ H xs us ds Q I iH rv rb h
  unfold bSorted at h
  split at h
  · rename_i es
    obtain ⟨v, rfl, r⟩ := rb.one
    obtain ⟨u, rfl, ru⟩ := vals1 rv
    obtain ⟨h1, h2, h3, q⟩ := h
    obtain ⟨a, vs, rfl, hq, rs⟩ := r.rd
    cases ru
    obtain ⟨hz, its, rits, e⟩ := Inv.rdL I hq
    have hn := srt_non h3
    have er := eachIs_of rs rits
    have er2 : W.EachIs (fun v b => ∃ as, Reads s.heap v (toPy b) as) its es := by
      refine (W.each_mem er).mono fun u d ⟨⟨v, rv, rd⟩, hm⟩ => ?_
      exact Rep.reads I d v u (oks_iff.mp h1 d hm) rd rv
    have hl := rs.length
    refine DW.sorted_w (Rr := fun u d => ∃ v, RelV v u ∧ Rep X.K H v d) (enc := toPy) (bs := es) (vs := its) e er er2 (fun d hd => (ok_lay (oks_iff.mp h1 d hd)).1) (fun d hd d' hd' => ?_) (srt_py h1 h3) (by rw [← hl]; exact hz) (fun d hd => ?_) fun out ho eo => ?_
    · obtain ⟨x, hx, rfl⟩ := List.mem_map.mp hd
      obtain ⟨y, hy, rfl⟩ := List.mem_map.mp hd'
      rw [cmk_py (oks_iff.mp h1 x hx) (oks_iff.mp h1 y hy)]
      exact h2 x hx y hy
    · have := (ok_lay (oks_iff.mp h1 d hd)).2
      omega
    · rw [sort_dle h1 h2 hn] at eo
      obtain ⟨ws, rw', rs'⟩ := of_eachIs eo
      obtain ⟨c, hc⟩ := sortedAll_at s.heap its out.toArray
      have nn : H (s.heap.objs.size + 1) = none := I.hok.fresh (Nat.le_succ _)
      have g : Go R H (upd H (s.heap.objs.size + 1) (.lst ws)) := Go.new nn iH
      have hzo : ws.length ≤ sizeLine := by rw [rw'.length, ho, ← hl]; exact hz
      refine ⟨.ref (s.heap.objs.size + 1), _, I.laid (t' := s.toks) (h' := sortedAll s.heap its out.toArray) (fun b o e => sortedAll_old e) (Nat.le_succ _) ?_, rfl, g, _, ws, _, rfl, nn, upd_same, rs'.ext (g.ext iH), q⟩
      exact ⟨hzo, out, c, rw', hc⟩
  · exact h.elim
/-! ### sum of ints, join -/
def allInt : List D → Option (List Int)
  | [] => some []
  | .int i :: ds => (allInt ds).map (i :: ·)
  | _ :: _ => none
theorem allInt_rep {K : PySem.W.Frag} {H : Hp} : ∀ {vs : List V} {ds : List D} {ns : List Int}, RepL K H vs ds → allInt ds = some ns → vs = ns.map V.int
  | _, _, _, .nil, e => by cases e; rfl
  | _, _, _, .cons h r, e => by
    cases h with
    | int i =>
      simp only [allInt] at e
      cases q : allInt _ with
      | none => rw [q] at e; cases e
      | some ms =>
        rw [q] at e
        cases e
        rw [allInt_rep r q]
        rfl
    | _ => simp [allInt] at e
def bSum : Bf
  | [.lst xs], Q => ∃ ns, allInt xs = some ns ∧ Q (.int ns.sum)
  | _, _ => False
theorem call_Sum (hc : X.calm = true) : DCall X R (.builtin "sum") bSum := by
  intro pins s σ H xs us ds Q I iH rv rb h
  unfold bSum at h
  split at h
  · obtain ⟨v, rfl, r⟩ := rb.one
    obtain ⟨ns, e, q⟩ := h
    obtain ⟨a, vs, rfl, hq, rs⟩ := r.lst (K := X.K)
    have := allInt_rep rs e
    subst this
    exact cr_sum hc pins s σ H _ us _ I rv ⟨a, ns, rfl, hq, Go.refl H, _, .int _, q⟩
  · exact h.elim
def allStr : List D → Option (List (List Nat))
  | [] => some []
  | .str z :: ds => (allStr ds).map (z :: ·)
  | _ :: _ => none
theorem allStr_rep {K : PySem.W.Frag} {H : Hp} : ∀ {vs : List V} {ds : List D} {ns : List (List Nat)}, RepL K H vs ds → allStr ds = some ns → vs = (ns.map mkS).map V.str
  | _, _, _, .nil, e => by cases e; rfl
  | _, _, _, .cons h r, e => by
    cases h with
    | str i =>
      simp only [allStr] at e
      cases q : allStr _ with
      | none => rw [q] at e; cases e
      | some ms =>
        rw [q] at e
        cases e
        rw [allStr_rep r q]
        rfl
    | _ => simp [allStr] at e
def jn (sep : List Nat) : List (List Nat) → List Nat
  | [] => []
  | x :: r => x ++ (r.map (sep ++ ·)).flatten
theorem join_jn (a : List Nat) (ns : List (List Nat)) : Txt.join (mkS a) (ns.map mkS) = mkS (jn a ns) := by
  cases ns with
  | nil => rfl
  | cons x r =>
    have : ∀ (r : List (List Nat)) (acc : List Nat), (r.map mkS).foldl (fun (acc : Array Nat) (p : Str) => acc ++ (mkS a).cps ++ p.cps) acc.toArray = (acc ++ (r.map (a ++ ·)).flatten).toArray := by
      intro r
      induction r with
      | nil => intro acc; simp
      | cons y r ih =>
        intro acc
        have e : acc.toArray ++ (mkS a).cps ++ (mkS y).cps = (acc ++ a ++ y).toArray := by simp
        show (r.map mkS).foldl _ (acc.toArray ++ (mkS a).cps ++ (mkS y).cps) = _
        rw [e, ih]
        simp [List.append_assoc]
    show Str.mk (((x :: r).map mkS).drop 1 |>.foldl (fun (acc : Array Nat) (p : Str) => acc ++ (mkS a).cps ++ p.cps) (((x :: r).map mkS).headD Str.empty).cps) = _
    exact congrArg Str.mk (this r x)
def dJoin (To Te : XE') : XE' := fun ρ Q => To ρ fun o => ∃ a, o = .str a ∧ Te ρ fun d => ∃ ns, (∃ xs, (d = .lst xs ∨ d = .tup xs) ∧ allStr xs = some ns) ∧ (ns.map List.length).sum + ns.length * a.length ≤ 16777216 ∧ Q (.str (jn a ns))
theorem de_join {o e : Expr} {To Te : XE'} {call : Expr} (ho : DE X R o To) (he : DB X R e Te)
    (hb : ∀ to te, PE X o to → PE X e te → PE X call (tM1 (fun x xs H Q => ∃ a p, ∃ ys : List Str, x = .str a ∧ xs = [.ref p] ∧ (SqL X.K H p (ys.map V.str) ∨ SqT X.K H p (ys.map V.str)) ∧ (ys.map (·.length)).sum + ys.length * a.length ≤ 16777216 ∧ Q (.str (Txt.join a ys)) H) to te)) : DE X R call (dJoin To Te) :=
  DE.mk' (hb _ _ ho.pe he.pe) fun σ H H0 ρ Q i0 iH sl h => by
    refine ⟨H0, ρ, _, i0, iH, sl, h, fun v H1 ⟨g, d, rd, a, e, q⟩ => ?_⟩
    subst e
    cases rd
    refine ⟨⟨_, rfl⟩, H0, ρ, _, i0, g.inv iH, sl.go i0 iH g, q, fun w H2 ⟨g2, d2, rd2, ns, ⟨xs, hx, hs⟩, hl, q2⟩ => ?_⟩
    have e2 : ∀ z : List Nat, (mkS z).length = z.length := fun z => by simp [Str.length]
    have e3 : ((ns.map mkS).map (·.length)).sum = (ns.map List.length).sum := by
      rw [List.map_map]
      exact congrArg List.sum (List.map_congr_left fun z _ => e2 z)
    have fin : ∃ p, w = .ref p ∧ (SqL X.K H2 p ((ns.map mkS).map V.str) ∨ SqT X.K H2 p ((ns.map mkS).map V.str)) := by
      rcases hx with rfl | rfl
      · obtain ⟨p, vs, rfl, hq, rs⟩ := rd2.lst (K := X.K)
        rw [← allStr_rep rs hs]
        exact ⟨p, rfl, .inl hq⟩
      · obtain ⟨p, vs, rfl, hq, rs⟩ := rd2.tup
        rw [← allStr_rep rs hs]
        exact ⟨p, rfl, .inr hq⟩
    obtain ⟨p, rfl, hp⟩ := fin
    refine ⟨mkS a, p, ns.map mkS, rfl, rfl, hp, ?_, ?_⟩
    · rw [e3, e2, List.length_map]; exact hl
    · rw [join_jn]; exact ⟨g.trans g2, _, .str _, q2⟩
/-! ### text * int, list * int -/
def rep {α : Type} (n : Int) (xs : List α) : List α := (List.replicate n.toNat xs).flatten
def oMulS : Op2
  | .str z, .int n, Q => -1000000 ≤ n ∧ n ≤ 1000000 ∧ sz (z.length * n.toNat) ∧ Q (.str (rep n z))
  | _, _, _ => False
theorem rep_foldl (z : List Nat) (k : Nat) : (List.replicate k z.toArray).foldl (· ++ ·) #[] = (List.replicate k z).flatten.toArray := by
  have := foldl_rep' z k []
  simpa using this
where
  foldl_rep' (z : List Nat) : ∀ (k : Nat) (acc : List Nat), (List.replicate k z.toArray).foldl (· ++ ·) acc.toArray = (acc ++ (List.replicate k z).flatten).toArray
  | 0, acc => by simp
  | k + 1, acc => by
    rw [List.replicate_succ, List.foldl_cons, List.append_toArray, foldl_rep' z k, List.replicate_succ, List.flatten_cons, List.append_assoc]
theorem op_MulS : DOp X R (binaryOp .Mult) oMulS := by
  intro pins s σ H x y v u dx dy Q I iH rx ry px py h
  unfold oMulS at h
  split at h
  · rename_i z n
    have e1 := px.str; have e2 := py.int
    subst e1; subst e2
    obtain ⟨t, rfl⟩ := rx
    obtain ⟨t', rfl⟩ := ry
    obtain ⟨h1, h2, h3, q⟩ := h
    have e2 : (mkS z).length = z.length := by simp [Str.length]
    have hz := sz_line h3
    unfold sz at h3
    refine PySem.P.mul_str ?_ (fun g1 _ => ?_) (fun g1 _ => ?_) ?_
    · rw [decide_eq_false (by omega), decide_eq_false (by omega)]; rfl
    · rw [e2]
      intro hc
      have hn : 1 ≤ n := by omega
      have k1 : (1 : Int) * z.length ≤ n * z.length := Int.mul_le_mul_of_nonneg_right hn (Int.natCast_nonneg _)
      have k2 : (z.length * n.toNat : Nat) ≤ 10000000 := h3
      have k3 : ((z.length * n.toNat : Nat) : Int) = z.length * n := by rw [Int.natCast_mul, Int.toNat_of_nonneg (by omega)]
      have k4 : (2 ^ 63 - 1 : Int) / n ≥ (2 ^ 63 - 1) / 1000000 := by
        rw [ge_iff_le, Int.le_ediv_iff_mul_le (by omega)]
        have : (2 ^ 63 - 1 : Int) / 1000000 * n ≤ (2 ^ 63 - 1) / 1000000 * 1000000 := Int.mul_le_mul_of_nonneg_left h2 (by decide)
        have : (2 ^ 63 - 1 : Int) / 1000000 * 1000000 ≤ 2 ^ 63 - 1 := by decide
        omega
      have k5 : ((2 ^ 63 - 1 : Int) / 1000000) = 9223372036854 := by decide
      have k6 : n * z.length = z.length * n := Int.mul_comm _ _
      omega
    · rw [e2]
      unfold Builtin.Str.tooLong
      exact decide_eq_false (by omega)
    · by_cases g1 : n < 1
      · rw [if_pos g1]
        refine ⟨by decide, ?_⟩
        have e0 : rep n z = [] := by
          unfold rep
          rw [show n.toNat = 0 by omega]
          rfl
        rw [e0] at q
        exact fin_str (z := []) I q
      · rw [if_neg g1]
        by_cases g2 : (n == 1 || (mkS z).length == 0) = true
        · rw [if_pos g2]
          have e0 : rep n z = z := by
            unfold rep
            rw [e2] at g2
            simp only [Bool.or_eq_true, beq_iff_eq] at g2
            rcases g2 with g2 | g2
            · rw [g2]; simp
            · have : z = [] := List.length_eq_zero_iff.mp g2
              subst this
              simp
          rw [e0] at q
          exact fin_str (t' := s.toks) I q
        · rw [if_neg g2]
          rw [show (List.replicate n.toNat (mkS z).cps).foldl (· ++ ·) #[] = (rep n z).toArray from rep_foldl z n.toNat]
          refine ⟨?_, fin_str I q⟩
          show (rep n z).toArray.size ≤ sizeLine
          rw [List.size_toArray]
          unfold rep
          rw [PyProof.Rows.lm_len_rep_flat, Nat.mul_comm]
          exact hz
  · exact h.elim
def oMulL : D → D → (List D → Prop) → Prop
  | .lst xs, .int n, Q => -1000000 ≤ n ∧ n ≤ 1000000 ∧ sz (xs.length * n.toNat) ∧ Q (rep n xs)
  | _, _, _ => False
/-- a new list * an int -/
def dMulL (Ta : XL') (Tb : XE') : XL' := fun ρ Q => Ta ρ fun xs => Tb ρ fun d => ∃ n, d = .int n ∧ -1000000 ≤ n ∧ n ≤ 1000000 ∧ sz (xs.length * n.toNat) ∧ Q (rep n xs)
theorem RepL.rep {K : PySem.W.Frag} {H : Hp} {vs : List V} {ds : List D} (r : RepL K H vs ds) : ∀ n : Nat, RepL K H (List.replicate n vs).flatten (List.replicate n ds).flatten
  | 0 => .nil
  | n + 1 => by rw [List.replicate_succ, List.replicate_succ, List.flatten_cons, List.flatten_cons]; exact r.append (RepL.rep r n)
theorem df_mulL {a b : Expr} {Ta : XL'} {Tb : XE'} {pos : Pos} (ha : DF X R a Ta) (hb : DE X R b Tb) : DF X R (.BinOp a .Mult b pos) (dMulL Ta Tb) :=
  DF.mk' (pe_op op_rep ha.pe hb.pe) fun σ H H0 ρ Q i0 iH sl h => ⟨H0, ρ, _, i0, iH, sl, h, fun v H1 ⟨g, l, vs, ds, e, nl, hl, r, q⟩ => ⟨H0, ρ, _, i0, g.inv iH, sl.go i0 iH g, q, fun w H2 ⟨g2, d, rd, n, en, b1, b2, hz, q2⟩ => by
    subst e en
    cases rd
    have nf : ¬ R.fp l := fun z => by obtain ⟨u, eu, _⟩ := R.has iH z; rw [nl] at eu; cases eu
    have hl2 : H2 l = some (.lst vs) := g2.keep _ _ hl nf
    refine ⟨l, n, vs, rfl, rfl, hl2, by omega, by omega, by rw [r.length]; exact sz_line hz, fun p np => ?_⟩
    have r2 := r.ext (g2.ext (g.inv iH))
    have g3 : Go R H2 (upd H2 p (.lst (List.replicate n.toNat vs).flatten)) := Go.new np (g2.inv (g.inv iH))
    exact ⟨(g.trans g2).trans g3, p, _, _, rfl, (g.trans g2).none_of iH (by assumption), upd_same, (RepL.rep r2 n.toNat).ext (g3.ext (g2.inv (g.inv iH))), q2⟩⟩⟩
/-! ### a list that grows: insert, extend, pop, a stored item -/
def dIns (i : Nat) (Ti Te : XE') : XS := fun N ρ => ∃ ds, ρ[i]? = some (.own ds) ∧ ds.length < 1000000 ∧ Ti ρ fun k => ∃ n, k = .int n ∧ 0 ≤ n ∧ n ≤ 1000000 ∧ Te ρ fun d => N.nx (ρ.set i (.own (ds.take n.toNat ++ [d] ++ ds.drop n.toNat)))
theorem ds_ins (i : Nat) {call e1 e : Expr} {T1 Te : XE'} {pos : Pos} (h1 : DE X R e1 T1) (he : DE X R e Te) (hb : ∀ t, PA X [e1, e] t → PE X call (tBM X.K "list" (fun x vs H Q => ∃ (l : Addr) (xs : List V) (i : Int) (y : V), x = .ref l ∧ vs = [.int i, y] ∧ H l = some (.lst xs) ∧ xs.length < sizeLine ∧ 0 ≤ i ∧ i < 2 ^ 63 ∧
    Q .non (upd H l (.lst (xs.take i.toNat ++ [y] ++ xs.drop i.toNat)))) (tVar i) t))
    (hst : starEach [e1, e] X.env = (false, eval e1 X.env) :: starEach [e] X.env := by rfl) (hst2 : starEach [e] X.env = (false, eval e X.env) :: starEach [] X.env := by rfl)
    (hs : swapsWith call none pos.line X.env = pure false := by rfl) : DS X R (.Expr call pos) (dIns i T1 Te) :=
  DS.mk' (ps_expr (hb _ (pa_cons h1.pe (pa_cons he.pe pa_nil hst2) hst)) hs) fun σ H H0 ρ N i0 g sl ⟨ds, e, hl, h⟩ => by
    obtain ⟨a, vs, ea, ha, na, r⟩ := sl.own e
    have nf : ¬ R.fp a := fun z => by obtain ⟨u, eu, _⟩ := R.has i0 z; rw [na] at eu; cases eu
    refine ⟨.ref a, ea, .inl ⟨rfl, _, SqL.of ha⟩, toE.of i0 g sl h fun k H1 dk g1 rk ⟨n, en, hn0, hn1, q⟩ => ?_⟩
    subst en
    cases rk
    refine ⟨H0, ρ, _, i0, g1.inv (g.inv i0), sl.go i0 (g.inv i0) g1, q, fun v H' ⟨g2, d, rd, q⟩ => ?_⟩
    have g' := g1.trans g2
    have ha' : H' a = some (.lst vs) := g'.keep _ _ ha nf
    have r' := r.ext (g'.ext (g.inv i0))
    refine ⟨a, vs, n, v, rfl, rfl, ha', by rw [r.length]; exact lt_line hl, hn0, by omega, ?_⟩
    exact ⟨_, go_own i0 (g.trans g') na, (g'.ext (g.inv i0)).trans (ext_upd ha'), (sl.go i0 (g.inv i0) g').write e ea ha' na (((r'.take n.toNat).append (.cons rd .nil)).append (r'.drop n.toNat)), q⟩
end
end DL

namespace DL
open PySem PySem.Spec PyProof.Rows L2

/-! ### the purse: a list of two lists of ints and two ints; draws change it -/
def Pur (a g c : Addr) : Res where
  fp b := b = a ∨ b = g ∨ b = c
  inv H := (a ≠ g ∧ a ≠ c ∧ g ≠ c) ∧ ∃ (xs ys : List Int) (s t : Int), H a = some (.lst [.ref g, .ref c, .int s, .int t]) ∧ H g = some (.lst (xs.map V.int)) ∧ H c = some (.lst (ys.map V.int)) ∧ (∀ x ∈ xs, 0 ≤ x) ∧ xs.length ≤ 1000 ∧ ys ≠ [] ∧ 0 ≤ t
  stab := fun {H H'} k ⟨n, xs, ys, s, t, h1, h2, h3, r⟩ => ⟨n, xs, ys, s, t, by rw [k a (.inl rfl)]; exact h1, by rw [k g (.inr (.inl rfl))]; exact h2, by rw [k c (.inr (.inr rfl))]; exact h3, r⟩
  has := fun {H b} ⟨n, xs, ys, s, t, h1, h2, h3, r⟩ hb => by
    rcases hb with rfl | rfl | rfl
    · exact ⟨_, h1, trivial⟩
    · exact ⟨_, h2, trivial⟩
    · exact ⟨_, h3, trivial⟩
/-- the promise of a draw -/
def fDraw (a : Addr) : Fn := fun ds Q => ∃ n : Int, ds = [.raw (.ref a), .int n] ∧ 0 < n ∧ n ≤ 1000000000 ∧ ∀ k : Int, 0 ≤ k → k < n → Q (.int k)
theorem fDraw_len {a : Addr} : ∀ ds Q, fDraw a ds Q → ds.length = 2 := by
  rintro ds Q ⟨n, rfl, _⟩; rfl
theorem shaped_ints (xs : List Int) : SeqAt.shaped (.list (xs.map .int)) = true := by
  have h1 : ∀ xs : List Int, PyData.canLayAll0 (xs.map .int) = true := by
    intro xs
    induction xs with
    | nil => rfl
    | cons x xs ih => simp only [List.map_cons, PyData.canLayAll0, ih, PyData.canLay0, Bool.and_self]
  show ((PyData.list (xs.map .int)).canLay0 && decide ((PyData.list (xs.map .int)).depth ≤ 64)) = true
  simp only [PyData.canLay0, PyData.depth, h1, W.depth_ints]
  rfl
theorem dpAll_ints {K : PySem.W.Frag} {H : Hp} : ∀ xs : List Int, DpAll K H (xs.map V.int) (xs.map .int)
  | [] => .nil
  | x :: xs => .cons (.int x) (dpAll_ints xs)
theorem eqv_nil (xs : List Int) : PyData.eqv (.list (xs.map .int)) (.list []) = xs.isEmpty := by
  cases xs <;> simp [PyData.eqv, PyData.eqvAll]
theorem ixN_nat {n j : Nat} (h : j < n) : ixN n (j : Int) = some j := by
  unfold ixN
  rw [if_pos (by omega), if_pos (by omega)]
  simp
/-! ### comprehensions -/
theorem lcGo_fm {B : D → En → (En → Prop) → Prop} {Tt : XB'} {Te : XE'} {ρ : En} (f : D → Option D) : ∀ {ds : List D} {Q : List D → Prop}, (∀ d ∈ ds, ∀ (P : D → Prop) (Z : Prop), (∀ y, f d = some y → P y) → (f d = none → Z) → B d ρ fun ρ' => Tt ρ' fun b => if b = true then Te ρ' P else Z) → Q (ds.filterMap f) → lcGo B Tt Te ρ ds Q
  | [], Q, _, q => q
  | d :: ds, Q, h, q => by
    unfold lcGo
    refine h d (List.mem_cons_self ..) _ _ (fun y e => ?_) fun e => ?_
    · refine lcGo_fm f (fun x hx => h x (List.mem_cons_of_mem _ hx)) ?_
      rw [List.filterMap_cons_some e] at q
      exact q
    · refine lcGo_fm f (fun x hx => h x (List.mem_cons_of_mem _ hx)) ?_
      rw [List.filterMap_cons_none e] at q
      exact q
theorem lcGo_map {B : D → En → (En → Prop) → Prop} {Te : XE'} {ρ : En} (f : D → D) {ds : List D} {Q : List D → Prop} (h : ∀ d ∈ ds, ∀ (P : D → Prop), P (f d) → B d ρ fun ρ' => Te ρ' P) (q : Q (ds.map f)) : lcGo B dYes Te ρ ds Q := by
  refine lcGo_fm (fun d => some (f d)) (fun d hd P Z h1 _ => ?_) ?_
  · exact h d hd P (h1 _ rfl)
  · have e : ds.filterMap (fun d => some (f d)) = ds.map f := by rw [← List.filterMap_eq_map]; rfl
    rw [e]; exact q
/-- each item is one of C -/
theorem lcGo_all {B : D → En → (En → Prop) → Prop} {Te : XE'} {ρ : En} (C : D → Prop) : ∀ {ds : List D} {Q : List D → Prop}, (∀ d ∈ ds, ∀ (P : D → Prop), (∀ y, C y → P y) → B d ρ fun ρ' => Te ρ' P) → (∀ ys, ys.length = ds.length → (∀ y ∈ ys, C y) → Q ys) → lcGo B dYes Te ρ ds Q
  | [], Q, _, q => q [] rfl fun _ h => nomatch h
  | d :: ds, Q, h, q => by
    unfold lcGo
    show B d ρ _
    refine h d (List.mem_cons_self ..) _ fun y hy => ?_
    refine lcGo_all C (fun x hx => h x (List.mem_cons_of_mem _ hx)) fun ys h1 h2 => q _ (by simp [h1]) fun z hz => ?_
    rcases List.mem_cons.mp hz with rfl | hz
    · exact hy
    · exact h2 z hz
/-- for: by an invariant of what was walked -/
theorem forGo_inv {B : D → En → (En → Prop) → Prop} {body : XS} {N : Dn} (W : List D → En → Prop) : ∀ {ds : List D} {ρ : En} (pre : List D), W pre ρ → (∀ (p : List D) (d : D) (r : List D) (ρ : En) (G : En → Prop), pre ++ ds = p ++ d :: r → W p ρ → (∀ ρ', W (p ++ [d]) ρ' → G ρ') → B d ρ fun ρ' => body { nx := G, rt := N.rt, bk := N.nx, ct := G } ρ') →
    (∀ ρ, W (pre ++ ds) ρ → N.nx ρ) → forGo B body N ds ρ
  | [], ρ, pre, w, _, fin => fin ρ (by simpa using w)
  | d :: ds, ρ, pre, w, turn, fin => by
    unfold forGo
    exact turn pre d ds ρ _ rfl w fun ρ' w' => forGo_inv W (pre ++ [d]) w' (fun p x r ρ G e => turn p x r ρ G (by simpa using e)) (fun ρ h => fin ρ (by simpa using h))
theorem cutL_take {α : Type} (xs : List α) (n : Nat) : cutL xs none (some (n : Int)) = xs.take n := by
  unfold cutL
  rw [HT.sIx_none, HT.sIx_nat, Nat.sub_zero, List.drop_zero]
  rcases Nat.le_total n xs.length with h | h
  · rw [Nat.min_eq_left h]
  · rw [Nat.min_eq_right h, List.take_of_length_le (Nat.le_refl _), List.take_of_length_le h]
theorem allInt_map : ∀ ns : List Int, allInt (ns.map D.int) = some ns
  | [] => rfl
  | n :: ns => by simp [allInt, allInt_map ns]
theorem rep_ints {K : PySem.W.Frag} {H : Hp} {vs : List V} {ns : List Int} (r : RepL K H vs (ns.map D.int)) : vs = ns.map V.int := allInt_rep r (allInt_map ns)
theorem ok_int {n : Nat} {i : Int} : ok n (.int i) = true := rfl
/-- what the maker of a purse promises -/
def spPur (K : PySem.W.Frag) : Sp := fun vs H Q _ => ∃ ns : List Int, RepL K H vs [.lst (ns.map D.int)] ∧ ns.length ≤ 1000 ∧ ∀ (a g c : Addr) (H' : Hp), Go Res.nil H H' → (Pur a g c).inv H' → Q (.ref a) H'
end DL

/-! the law's own head, for promises that know the guards -/
namespace DL
open PySem PySem.Spec PyProof.Rows L2
theorem head_go {P : Program} {w : World} {K : PySem.W.Frag} {mg mb : Str → Option Value} {k : Nat} {fa a : Addr} {fd : FuncData} {x : Str} {sp : Sp} {t : Shared} {vs : List Value} {H : Hp} (kx : K.In t.heap) (gn : t.heap.Ns mainGlobals mg) (bn : t.heap.Ns builtinsNs mb) (bb : ∀ x : Str, x ≠ "__name__" → mb x = bootBuiltins x) (lim : t.heap.NoLimit) (gens : t.gens = #[])
    (at_ : t.heap.get? a = some { cls := .type "list", data := .seq vs.toArray }) (room : Room k callerA) (F : ∀ base : Heap, K.In base → base.Ns mainGlobals mg → FnG P w K mg base CX0 k fa fd [x] sp) (bind : ∀ (s : Shared) (u : Value), BindsTo s fd ⟨[u], []⟩ [(x, u)])
    (only : Only H) (ok : HOk P w H t.heap) (one : ∀ b, H b ≠ none → b = a) (own : H a ≠ none → K.lookup a = none) (prom : sp [.ref a] H (fun v _ => v = .bl true) fun _ _ _ => False) :
    codeAny (model P w) callerA (.call (.ref fa) ⟨[.ref a], []⟩) (fun r s' => r = .ok (.ret (.bool true)) ∧ OldK t.heap s'.heap ∧ s'.os = t.os ∧ AllBare s'.gens) t := by
  have low : ∀ {b : Addr} {o : Obj}, t.heap.get? b = some o → H b = none → (hidT t.heap H).get? b = some o := fun e n => hidT_get e n
  have noDict : ∀ {b : Addr} {o : Obj} {es : Array DictEntry} {ep : Nat}, t.heap.get? b = some o → o.data = .dict es ep → H b = none := fun {b o es ep} e d => by
    cases q : H b with
    | some u =>
      obtain rfl : b = a := one b (by rw [q]; simp)
      rw [at_] at e
      cases e
      cases (show Data.seq vs.toArray _ = Data.dict es ep from d)
    | none => rfl
  have ns : ∀ {b : Addr} {m : Str → Option Value}, t.heap.Ns b m → (hidT t.heap H).Ns b m := fun ⟨o, es, ep, e, d, r⟩ => ⟨o, es, ep, low e (noDict e d), d, r⟩
  have kb : K.In (hidT t.heap H) := fun b o e => low (kx b o e) (by
    cases q : H b with
    | some u =>
      obtain rfl : b = a := one b (by rw [q]; simp)
      rw [own (by rw [q]; simp)] at e
      cases e
    | none => rfl)
  have md : Mod K mg (hidT t.heap H) := ⟨kb, ns gn, ⟨mb, ns bn, bb⟩, let ⟨mc, h1, h2⟩ := lim; ⟨mc, ns h1, h2⟩⟩
  have e0 : Env0 P w K mg (hidT t.heap H) callerA [] t H := ⟨rfl, md, fun b o e => of_hidT e, Nat.le_of_eq (hidT_size _ _), trivial, fun b hb => absurd (show b ∈ ([] : List Addr) from hb) (by simp), ok, .of_eq gens⟩
  refine codeAny_mono ((F _ kb (ns gn)).run callerA [] t H ⟨[.ref a], []⟩ [.ref a] [.ref a] _ _ room rfl e0 (bind t (.ref a)) (.cons rfl .nil) prom) fun r s' q => ?_
  match r, q with
  | .error e, q => exact (show False from q).elim
  | .ok .next, q => exact (show False from q).elim
  | .ok .brk, q => exact (show False from q).elim
  | .ok .cont, q => exact (show False from q).elim
  | .ok (.ret u), ⟨v, H', os, bare, un, ok', rv, (ev : v = .bl true)⟩ =>
    subst ev
    obtain rfl : u = Value.bool true := rv
    refine ⟨rfl, OldK.of_keep fun b o e => ?_, os, bare⟩
    rcases only b with z | ⟨ob, xs, z⟩
    · exact un.keep b o e z (fun y => absurd (show b ∈ ([] : List Addr) from y) (by simp)) (by simp)
    · obtain ⟨e1, _⟩ := ok b _ z
      obtain ⟨e2, _⟩ := ok' b _ (un.frzs b ob _ z)
      rw [e] at e1
      cases e1
      exact e2
theorem repL_ints {K : PySem.W.Frag} {H : Hp} : ∀ ns : List Int, RepL K H (ns.map V.int) (ns.map D.int)
  | [] => .nil
  | n :: ns => .cons (.int n) (repL_ints ns)
theorem head_call {P : Program} {w : World} {K : PySem.W.Frag} {mg mb : Str → Option Value} {k : Nat} {fa a : Addr} {fd : FuncData} {x : Str} {sp : Sp} {t : Shared} {vs : List Value} {ns : List Int} (kx : K.In t.heap) (gn : t.heap.Ns mainGlobals mg) (bn : t.heap.Ns builtinsNs mb) (bb : ∀ x : Str, x ≠ "__name__" → mb x = bootBuiltins x) (lim : t.heap.NoLimit) (gens : t.gens = #[])
    (at_ : t.heap.get? a = some { cls := .type "list", data := .seq vs.toArray }) (nums : IntsAre vs ns) (len : ns.length ≤ sizeLine) (room : Room k callerA) (F : ∀ base : Heap, K.In base → base.Ns mainGlobals mg → FnG P w K mg base CX0 k fa fd [x] sp) (bind : ∀ (s : Shared) (u : Value), BindsTo s fd ⟨[u], []⟩ [(x, u)])
    (prom : ∀ H : Hp, Rep K H (.ref a) (.lst (ns.map D.int)) → sp [.ref a] H (fun v _ => v = .bl true) fun _ _ _ => False) :
    codeAny (model P w) callerA (.call (.ref fa) ⟨[.ref a], []⟩) (fun r s' => r = .ok (.ret (.bool true)) ∧ OldK t.heap s'.heap ∧ s'.os = t.os ∧ AllBare s'.gens) t := by
  have rv := vals_ints nums
  have lv := nums.length
  have rl : ∀ H : Hp, RepL K H (ns.map V.int) (ns.map D.int) := fun H => repL_ints ns
  cases hk : K.lookup a with
  | some o =>
    have e := kx a o hk
    rw [at_] at e
    cases e
    refine head_go (H := fun _ => none) kx gn bn bb lim gens at_ room F bind (fun _ => .inl rfl) (fun b u z => by cases (show (none : Option HO) = some u from z)) (fun b z => absurd rfl z) (fun z => absurd rfl z) (prom _ (.lst (.inr (.inr ⟨_, vs.toArray, _, hk, rfl, rfl, rfl, by rw [List.size_toArray, lv]; exact len, by simpa using rv⟩)) (rl _)))
  | none =>
    refine head_go (H := fun b => if b = a then some (.frz { cls := .type "list", data := .seq vs.toArray } (.lst (ns.map V.int))) else none) kx gn bn bb lim gens at_ room F bind (fun b => ?_) (fun b u z => ?_) (fun b z => ?_) (fun _ => hk) (prom _ (.lst (.inl ⟨{ cls := .type "list", data := .seq vs.toArray }, if_pos rfl⟩) (rl _)))
    · by_cases hb : b = a
      · exact .inr ⟨_, _, if_pos hb⟩
      · exact .inl (if_neg hb)
    · by_cases hb : b = a
      · cases (if_pos hb).symm.trans z
        subst hb
        exact ⟨at_, by rw [List.length_map]; exact len, vs, _, rv, at_⟩
      · cases (if_neg hb).symm.trans z
    · by_cases hb : b = a
      · exact hb
      · exact absurd (if_neg hb) z
/-- what is left to prove of a law's def -/
def LawIs (P : Program) (w : World) (K : PySem.W.Frag) (k n : Nat) (x : Str) (mg : Str → Option Value) (fa : Addr) : Prop :=
  ∃ (fd : FuncData) (sp : Sp), (∀ (s : Shared) (u : Value), BindsTo s fd ⟨[u], []⟩ [(x, u)]) ∧ (∀ base : Heap, K.In base → base.Ns mainGlobals mg → FnG P w K mg base CX0 k fa fd [x] sp) ∧
    ∀ (H : Hp) (a : Addr) (ns : List Int), ns.length ≤ n → (∀ z ∈ ns, Builtin.Int.intBits z ≤ 1048576) → Rep K H (.ref a) (.lst (ns.map D.int)) → sp [.ref a] H (fun v _ => v = .bl true) fun _ _ _ => False
theorem walk_ofG {l : PySem.W.OpenLaw} {n k : Nat} {q : Program} {loose : List Str} {XP : (Str → Option Value) → Heap → Prop} {YP : World → Heap → Prop} {d : DefRec} {K : Params → PySem.W.Frag} {x : Str} (hn : l.most = some n) (hn2 : n ≤ sizeLine) (hdf : d.params.defaults = []) (hr : Room k callerA) (hY : ∀ (w : World) (h : Heap), YP w h → (K w.params).In h)
    (F : ∀ (w : World) (mg : Str → Option Value) (fa : Addr) (h : Heap), (K w.params).In h → h.Ns mainGlobals mg → mg d.name = some (.ref fa) → LawIs l.prog w (K w.params) k n x mg fa) : PySem.W.WalkO q loose XP YP l.row.toRowW d [] (fun f vs => PySem.call f vs) := by
  refine Att.attach_callB hn hdf fun w s₀ t mg mb fa o pm cd doc a vs ns G Y ho hd hcd hmg hobj hints hlen hbits hg => ?_
  obtain ⟨fd, sp, hb, hF, hp⟩ := F w mg fa _ (hY w _ Y) G.T.g hmg
  exact head_call (hY w _ Y) G.T.g G.T.b G.T.builtins G.T.nolimit hg hobj hints (Nat.le_trans hlen hn2) hr hF hb fun H r => hp H a ns hlen hbits r
end DL

namespace DL
open PySem PySem.Spec PyProof.Rows L2
/-- a def that may be called: its promise, and how its name is found -/
structure Cal (P : Program) (w : World) (K : PySem.W.Frag) (mg : Str → Option Value) (base : Heap) (k : Nat) (x : Str) (f : Addr) (fd : FuncData) (ps : List Str) (R : Res) (F : Fn) : Prop where
  G : FnG P w K mg base CX0 k f fd ps (spD K R F)
  g : mg x = some (.ref f)
  kp : PySem.W.keepIn K (.ref f) = true
  b : Binds K fd ps []
section
variable {X : Cx} {R : Res} {k : Nat} {f : Addr} {fd : FuncData} {ps ks : List Str} {x : Str} {p pos : Pos} {e : Expr} {es : List Expr} {T Tk : XL'} {F : Fn} {kws : List Keyword}
theorem de_c (C : Cal X.prog X.w X.K X.mg X.base k x f fd ps R F) (hr : Room k X.A) (hgd : X.A.guards = some []) (ha : DA X R (e :: es) T) (hg : Gl X x := by rfl) (hdb : (x == ("__debug__" : Str)) = false := by decide) (he : starEach (e :: es) X.env = (false, eval e X.env) :: starEach es X.env := by rfl) (hpl : (backTo pos (starEach es X.env)).any (·.1) = false := by rfl) :
    DE X R (.Call (.Name x p) (e :: es) [] pos) (dCall F T) := de_call C.G hr hgd hg C.g C.kp C.b ha hdb he hpl
theorem de_c0 (C : Cal X.prog X.w X.K X.mg X.base k x f fd ps R F) (hr : Room k X.A) (hgd : X.A.guards = some []) (hg : Gl X x := by rfl) (hdb : (x == ("__debug__" : Str)) = false := by decide) : DE X R (.Call (.Name x p) [] [] pos) (fun ρ Q => F [] Q) := de_call0 C.G hr hgd hg C.g C.kp C.b hdb
theorem de_ck {n : Nat} (C : Cal X.prog X.w X.K X.mg X.base k x f fd ps R F) (hb : KBd X.K fd ps n ks) (hr : Room k X.A) (hgd : X.A.guards = some []) (ha : DA X R (e :: es) T) (hkw : DK X R kws Tk) (hg : Gl X x := by rfl) (hall : (backToKw pos (keywordEach kws X.env)).all (·.1.isSome) = true := by rfl)
    (hks : (backToKw pos (keywordEach kws X.env)).filterMap (·.1) = ks := by rfl) (hdb : (x == ("__debug__" : Str)) = false := by decide) (he : starEach (e :: es) X.env = (false, eval e X.env) :: starEach es X.env := by rfl) (hpl : ((backTo pos (starEach (e :: es) X.env)).any (·.1) || (backToKw pos (keywordEach kws X.env)).any (·.1.isNone)) = false := by rfl) :
    DE X R (.Call (.Name x p) (e :: es) kws pos) (dCallK F n ks.length T Tk) := de_callK C.G hr hgd hg C.g C.kp hb ha hkw hall hks hdb he hpl
theorem de_ck0 (C : Cal X.prog X.w X.K X.mg X.base k x f fd ps R F) (hb : KBd X.K fd ps 0 ks) (hr : Room k X.A) (hgd : X.A.guards = some []) (hkw : DK X R kws Tk) (hg : Gl X x := by rfl) (hall : (backToKw pos (keywordEach kws X.env)).all (·.1.isSome) = true := by rfl)
    (hks : (backToKw pos (keywordEach kws X.env)).filterMap (·.1) = ks := by rfl) (hdb : (x == ("__debug__" : Str)) = false := by decide) (hpl : ((backTo pos (starEach [] X.env)).any (·.1) || (backToKw pos (keywordEach kws X.env)).any (·.1.isNone)) = false := by rfl) :
    DE X R (.Call (.Name x p) [] kws pos) (dCallK F 0 ks.length dNil Tk) := de_callK0 C.G hr hgd hg C.g C.kp hb hkw hall hks hdb hpl
end
end DL
namespace DL
open PySem PySem.Spec PyProof.Rows L2
/-- behind the making of the purse -/
theorem ps_pur {X : Cx} {sts : List Stmt} (T : Addr → XS) (h : ∀ a g c : Addr, DSs X (Pur a g c) sts (T a)) : PSs X sts (fun E σ H => ∃ a g c : Addr, toS X (Pur a g c) (T a) E σ H) :=
  ⟨fun pins s σ H E I ⟨a, g, c, q⟩ => (h a g c).pss.run pins s σ H E I q⟩
end DL

/-! repr of plain data tells them apart -/
namespace DL
open PySem PySem.Spec PyProof.Rows L2
def txt (i : Int) : List Nat := (Str.ofString (toString i)).cps.toList
theorem txt_inj {i j : Int} (h : txt i = txt j) : i = j := by
  unfold txt at h
  rw [signs_ofString, signs_ofString] at h
  have h2 : (toString i : String).toList = (toString j).toList := by
    refine List.map_inj_right (fun a b e => ?_) |>.mp h
    exact Char.toNat_inj.mp e
  have h3 : Int.repr i = Int.repr j := String.toList_inj.mp h2
  rw [Int.repr_eq_if, Int.repr_eq_if] at h3
  have nr : ∀ {m n : Nat}, m.repr = n.repr → m = n := fun {m n} e => by
    have e2 := congrArg String.toList e
    rw [Nat.toList_repr, Nat.toList_repr] at e2
    have e3 := congrArg (fun l => Nat.ofDigitChars 10 l 0) e2
    simpa [Nat.ofDigitChars_ten_toDigits] using e3
  have nm : ∀ {m n : Nat}, "-" ++ m.repr ≠ n.repr := fun {m n} e => by
    have e2 := congrArg String.toList e
    rw [Nat.toList_repr, String.toList_append] at e2
    have : '-' ∈ Nat.toDigits 10 n := by rw [← e2]; simp
    have := Nat.isDigit_of_mem_toDigits (by decide) (by decide) this
    revert this; decide
  by_cases h1 : 0 ≤ i
  · by_cases h2 : 0 ≤ j
    · rw [if_pos h1, if_pos h2] at h3
      have := nr h3
      omega
    · rw [if_pos h1, if_neg h2] at h3
      exact absurd h3.symm nm
  · by_cases h2 : 0 ≤ j
    · rw [if_neg h1, if_pos h2] at h3
      exact absurd h3 nm
    · rw [if_neg h1, if_neg h2] at h3
      have h4 : (-i).toNat.repr = (-j).toNat.repr := by
        have := congrArg String.toList h3
        rw [String.toList_append, String.toList_append] at this
        exact String.toList_inj.mp (List.append_cancel_left this)
      have := nr h4
      omega
def dig (c : Nat) : Bool := c == 45 || (decide (48 ≤ c) && decide (c ≤ 57))
theorem txt_dig (i : Int) : ∀ c ∈ txt i, dig c = true := by
  intro c hc
  unfold dig
  by_cases h : c = 45
  · simp [h]
  · by_cases h2 : c < 48 ∨ 57 < c
    · exact absurd hc (int_text_free' c ⟨h, h2⟩ i)
    · have : 48 ≤ c ∧ c ≤ 57 := by omega
      simp [this]
theorem txt_ne (i : Int) : txt i ≠ [] := by
  intro h
  have : (txt i).length = 0 := by rw [h]; rfl
  have h2 : (toString i : String).toList.length = 0 := by
    unfold txt at this
    rw [signs_ofString, List.length_map] at this
    exact this
  have h3 : (toString i : String).toList = [] := List.length_eq_zero_iff.mp h2
  rw [Int.toString_eq_repr, Int.repr_eq_if] at h3
  split at h3
  · rw [Nat.toList_repr] at h3
    exact Nat.toDigits_ne_nil h3
  · rw [String.toList_append] at h3
    have := (List.append_eq_nil_iff.mp h3).1
    revert this; decide
/-- signs that repr leaves as they are -/
def safe (c : Nat) : Bool := decide (32 ≤ c) && decide (c < 127) && (c != 39) && (c != 92)
theorem safe_char {c : Nat} (h : safe c = true) : Builtin.Str.reprChar 39 c = [c] := by
  have all : ∀ c : Nat, c < 127 → safe c = true → Builtin.Str.reprChar 39 c = [c] := by decide +kernel
  unfold safe at h
  simp only [Bool.and_eq_true, decide_eq_true_eq] at h
  exact all c h.1.1.2 (by unfold safe; simp only [Bool.and_eq_true, decide_eq_true_eq]; exact h)
theorem safe_ne {c : Nat} (h : safe c = true) : c ≠ 39 := by
  unfold safe at h
  simp only [Bool.and_eq_true, bne_iff_ne] at h
  exact h.1.2
theorem fold_safe : ∀ (z acc : List Nat), z.all safe = true → (z.foldl (fun (out : Array Nat) c => out ++ (Builtin.Str.reprChar 39 c).toArray) acc.toArray).toList = acc ++ z
  | [], acc, _ => by simp
  | c :: z, acc, h => by
    simp only [List.all_cons, Bool.and_eq_true] at h
    rw [List.foldl_cons, safe_char h.1]
    have := fold_safe z (acc ++ [c]) h.2
    simp only [List.append_assoc, List.cons_append, List.nil_append] at this
    rw [← this]
    simp
theorem quote_safe {z : List Nat} (h : z.all safe = true) : reprQuote (mkS z) = 39 := by
  unfold reprQuote
  have : (mkS z).cps.contains 39 = false := by
    rw [Bool.eq_false_iff]
    intro e
    have : (39 : Nat) ∈ z := by simpa using e
    exact safe_ne (List.all_eq_true.mp h _ this) rfl
  rw [this]
  rfl
theorem text_safe {z : List Nat} (h : z.all safe = true) : (reprText (mkS z)).cps.toList = 39 :: (z ++ [39]) := by
  unfold reprText
  rw [quote_safe h]
  have := fold_safe z [39] h
  simp only [Array.toList_push]
  rw [show ((mkS z).cps.foldl (fun out c => out ++ (Builtin.Str.reprChar 39 c).toArray) #[39]) = z.foldl (fun (out : Array Nat) c => out ++ (Builtin.Str.reprChar 39 c).toArray) [39].toArray from by simp [mkS]]
  rw [this]
  simp
mutual
def cln : D → Bool
  | .non => true
  | .bl _ => true
  | .int _ => true
  | .str z => z.all safe
  | .tup xs => clns xs
  | .lst xs => clns xs
  | _ => false
def clns : List D → Bool
  | [] => true
  | x :: xs => cln x && clns xs
end
theorem clns_iff : ∀ {ds : List D}, clns ds = true ↔ ∀ d ∈ ds, cln d = true
  | [] => by simp [clns]
  | d :: ds => by simp [clns, clns_iff (ds := ds)]
/-- the items behind the first -/
def more : List D → List Nat
  | [] => []
  | x :: xs => 44 :: 32 :: (shD x ++ more xs)
theorem app_toList (a b : Str) : (a ++ b).cps.toList = a.cps.toList ++ b.cps.toList := by
  show (a.cps ++ b.cps).toList = _
  simp
theorem join_more : ∀ (x : D) (xs : List D), (Str.join ", " (PyData.shownAll (toPys (x :: xs)))).cps.toList = shD x ++ more xs
  | x, [] => by simp only [toPys, PyData.shownAll, more, List.append_nil]; rfl
  | x, y :: ys => by
    have ih := join_more y ys
    simp only [toPys, PyData.shownAll, more] at ih ⊢
    show ((toPy x).shown ++ ", " ++ Str.join ", " ((toPy y).shown :: PyData.shownAll (toPys ys))).cps.toList = _
    rw [app_toList, app_toList, ih]
    have : ((", " : String) : Str).cps.toList = [44, 32] := by decide +kernel
    rw [this]
    simp [shD]
theorem sh_nilT : shD (.tup []) = [40, 41] := by decide +kernel
theorem sh_nilL : shD (.lst []) = [91, 93] := by decide +kernel
theorem sh_tup (x : D) (xs : List D) : shD (.tup (x :: xs)) = 40 :: (shD x ++ (more xs ++ (if xs = [] then [44, 41] else [41]))) := by
  show (PyData.shown (.tuple (toPys (x :: xs)))).cps.toList = _
  rw [PyData.shown]
  unfold tupleText
  rw [app_toList, app_toList, join_more]
  have h1 : (("(" : String) : Str).cps.toList = [40] := by decide +kernel
  have h2 : ((",)" : String) : Str).cps.toList = [44, 41] := by decide +kernel
  have h3 : ((")" : String) : Str).cps.toList = [41] := by decide +kernel
  rw [h1]
  have h4 : (PyData.shownAll (toPys (x :: xs))).length = xs.length + 1 := by
    have : ∀ l : List D, (PyData.shownAll (toPys l)).length = l.length := by
      intro l
      induction l with
      | nil => rfl
      | cons y l ih => simp only [toPys, PyData.shownAll, List.length_cons, ih]
    rw [this]; rfl
  rw [h4]
  cases xs with
  | nil =>
    show [40] ++ (shD x ++ more []) ++ ((",)" : String) : Str).cps.toList = _
    rw [h2, if_pos rfl]
    simp
  | cons y ys =>
    show [40] ++ (shD x ++ more (y :: ys)) ++ ((if ((y :: ys).length + 1 == 1) = true then ",)" else ")" : String) : Str).cps.toList = _
    rw [if_neg (by simp), h3, if_neg (by simp)]
    simp
theorem sh_lst (x : D) (xs : List D) : shD (.lst (x :: xs)) = 91 :: (shD x ++ (more xs ++ [93])) := by
  show (PyData.shown (.list (toPys (x :: xs)))).cps.toList = _
  rw [PyData.shown, listText_eq_join, app_toList, app_toList, join_more]
  have h1 : (("[" : String) : Str).cps.toList = [91] := by decide +kernel
  have h3 : (("]" : String) : Str).cps.toList = [93] := by decide +kernel
  rw [h1, h3]
  simp
theorem sh_int (i : Int) : shD (.int i) = txt i := rfl
theorem sh_str {z : List Nat} (h : z.all safe = true) : shD (.str z) = 39 :: (z ++ [39]) := by
  show (PyData.shown (.str (mkS z))).cps.toList = _
  rw [PyData.shown]
  exact text_safe h
theorem sh_non : shD .non = [78, 111, 110, 101] := by decide +kernel
theorem sh_true : shD (.bl true) = [84, 114, 117, 101] := by decide +kernel
theorem sh_false : shD (.bl false) = [70, 97, 108, 115, 101] := by decide +kernel
/-- what may stand behind an item -/
def stop : List Nat → Bool
  | [] => true
  | c :: _ => c == 44 || c == 41 || c == 93
def endl : List Nat → Bool
  | 44 :: 41 :: _ => true
  | c :: _ => c == 41 || c == 93
  | [] => false
theorem endl_stop {t : List Nat} (h : endl t = true) : stop t = true := by
  unfold endl at h
  split at h
  · rfl
  · simp only [stop]; simp only [Bool.or_eq_true, beq_iff_eq] at h ⊢; rcases h with h | h <;> simp [h]
  · cases h
theorem more_stop : ∀ {xs : List D} {t : List Nat}, endl t = true → stop (more xs ++ t) = true
  | [], t, h => endl_stop h
  | _ :: _, _, _ => rfl
/-- a run of figures ahead of a stop -/
theorem dig_inj : ∀ {l m t u : List Nat}, (∀ c ∈ l, dig c = true) → (∀ c ∈ m, dig c = true) → stop t = true → stop u = true → l ++ t = m ++ u → l = m ∧ t = u
  | [], [], t, u, _, _, _, _, e => ⟨rfl, e⟩
  | [], c :: m, t, u, _, hm, ht, _, e => by
    have e : t = c :: (m ++ u) := e
    subst e
    have h1 := hm c (List.mem_cons_self ..)
    simp only [stop, Bool.or_eq_true, beq_iff_eq] at ht
    exfalso
    rcases ht with (rfl | rfl) | rfl <;> revert h1 <;> decide
  | c :: l, [], t, u, hl, _, _, hu, e => by
    have e : u = c :: (l ++ t) := e.symm
    subst e
    have h1 := hl c (List.mem_cons_self ..)
    simp only [stop, Bool.or_eq_true, beq_iff_eq] at hu
    exfalso
    rcases hu with (rfl | rfl) | rfl <;> revert h1 <;> decide
  | c :: l, d :: m, t, u, hl, hm, ht, hu, e => by
    rw [List.cons_append, List.cons_append] at e
    injection e with e1 e2
    obtain ⟨h1, h2⟩ := dig_inj (fun x h => hl x (List.mem_cons_of_mem _ h)) (fun x h => hm x (List.mem_cons_of_mem _ h)) ht hu e2
    exact ⟨by rw [e1, h1], h2⟩
theorem str_inj : ∀ {l m t u : List Nat}, l.all safe = true → m.all safe = true → l ++ 39 :: t = m ++ 39 :: u → l = m ∧ t = u
  | [], [], t, u, _, _, e => ⟨rfl, (List.cons.inj e).2⟩
  | [], c :: m, t, u, _, hm, e => by
    injection e with e1 e2
    simp only [List.all_cons, Bool.and_eq_true] at hm
    exact absurd e1.symm (safe_ne hm.1)
  | c :: l, [], t, u, hl, _, e => by
    injection e with e1 e2
    simp only [List.all_cons, Bool.and_eq_true] at hl
    exact absurd e1 (safe_ne hl.1)
  | c :: l, d :: m, t, u, hl, hm, e => by
    injection e with e1 e2
    simp only [List.all_cons, Bool.and_eq_true] at hl hm
    obtain ⟨h1, h2⟩ := str_inj hl.2 hm.2 e2
    exact ⟨by rw [e1, h1], h2⟩
/-- the first sign -/
def first : D → Nat → Bool
  | .non, c => c == 78
  | .bl true, c => c == 84
  | .bl false, c => c == 70
  | .int _, c => dig c
  | .str _, c => c == 39
  | .tup _, c => c == 40
  | .lst _, c => c == 91
  | _, _ => false
theorem first_of {d : D} (h : cln d = true) : ∃ c r, shD d = c :: r ∧ first d c = true := by
  cases d with
  | non => exact ⟨_, _, sh_non, rfl⟩
  | bl b =>
    cases b
    · exact ⟨_, _, sh_false, rfl⟩
    · exact ⟨_, _, sh_true, rfl⟩
  | int i =>
    rw [sh_int]
    cases e : txt i with
    | nil => exact absurd e (txt_ne i)
    | cons c r => exact ⟨c, r, rfl, txt_dig i c (by rw [e]; exact List.mem_cons_self ..)⟩
  | str z => exact ⟨_, _, sh_str (by simpa [cln] using h), rfl⟩
  | tup xs =>
    cases xs with
    | nil => exact ⟨_, _, sh_nilT, rfl⟩
    | cons x xs => exact ⟨_, _, sh_tup x xs, rfl⟩
  | lst xs =>
    cases xs with
    | nil => exact ⟨_, _, sh_nilL, rfl⟩
    | cons x xs => exact ⟨_, _, sh_lst x xs, rfl⟩
  | dic _ => simp [cln] at h
  | raw _ => simp [cln] at h
/-- data of one first sign are of one kind -/
def kindE : D → D → Bool
  | .non, .non => true
  | .bl a, .bl b => a == b
  | .int _, .int _ => true
  | .str _, .str _ => true
  | .tup _, .tup _ => true
  | .lst _, .lst _ => true
  | _, _ => false
theorem kind_of {d e : D} {c : Nat} (h1 : first d c = true) (h2 : first e c = true) : kindE d e = true := by
  have num : ∀ x : Nat, dig x = true → x ≠ 78 ∧ x ≠ 84 ∧ x ≠ 70 ∧ x ≠ 39 ∧ x ≠ 40 ∧ x ≠ 91 := by
    intro x hx
    refine ⟨?_, ?_, ?_, ?_, ?_, ?_⟩ <;> rintro rfl <;> revert hx <;> decide
  have fr : ∀ d : D, first d c = true → (c = 78 ∧ d = .non) ∨ (c = 84 ∧ d = .bl true) ∨ (c = 70 ∧ d = .bl false) ∨ (dig c = true ∧ ∃ i, d = .int i) ∨ (c = 39 ∧ ∃ z, d = .str z) ∨ (c = 40 ∧ ∃ xs, d = .tup xs) ∨ (c = 91 ∧ ∃ xs, d = .lst xs) := by
    intro d hd
    cases d with
    | bl b => cases b <;> simpa [first] using hd
    | _ => simpa [first] using hd
  rcases fr d h1 with ⟨r, rfl⟩ | ⟨r, rfl⟩ | ⟨r, rfl⟩ | ⟨r, _, rfl⟩ | ⟨r, _, rfl⟩ | ⟨r, _, rfl⟩ | ⟨r, _, rfl⟩ <;> rcases fr e h2 with ⟨q, rfl⟩ | ⟨q, rfl⟩ | ⟨q, rfl⟩ | ⟨q, _, rfl⟩ | ⟨q, _, rfl⟩ | ⟨q, _, rfl⟩ | ⟨q, _, rfl⟩ <;>
    first | rfl | (exfalso; omega) | (exfalso; have := num c r; omega) | (exfalso; have := num c q; omega)
theorem head_kind {d e : D} {t u : List Nat} (hd : cln d = true) (he : cln e = true) (h : shD d ++ t = shD e ++ u) : kindE d e = true := by
  obtain ⟨c, r, e1, f1⟩ := first_of hd
  obtain ⟨c', r', e2, f2⟩ := first_of he
  rw [e1, e2] at h
  injection h with h1 h2
  subst h1
  exact kind_of f1 f2
mutual
theorem sh_inj : ∀ (d e : D) (t u : List Nat), cln d = true → cln e = true → stop t = true → stop u = true → shD d ++ t = shD e ++ u → d = e ∧ t = u
  | .int i, e, t, u, hd, he, ht, hu, h => by
    have hk := head_kind hd he h
    cases e with
    | int j =>
      rw [sh_int, sh_int] at h
      obtain ⟨h1, h2⟩ := dig_inj (txt_dig i) (txt_dig j) ht hu h
      exact ⟨by rw [txt_inj h1], h2⟩
    | _ => simp [kindE] at hk
  | .non, e, t, u, hd, he, ht, hu, h => by
    have hk := head_kind hd he h
    cases e with
    | non => exact ⟨rfl, List.append_cancel_left h⟩
    | _ => simp [kindE] at hk
  | .bl b, e, t, u, hd, he, ht, hu, h => by
    have hk := head_kind hd he h
    cases e with
    | bl b' =>
      have e : b = b' := by simpa [kindE] using hk
      subst e
      exact ⟨rfl, List.append_cancel_left h⟩
    | _ => simp [kindE] at hk
  | .str z, e, t, u, hd, he, ht, hu, h => by
    have hk := head_kind hd he h
    cases e with
    | str z' =>
      have h1 : z.all safe = true := by simpa [cln] using hd
      have h2 : z'.all safe = true := by simpa [cln] using he
      rw [sh_str h1, sh_str h2] at h
      simp only [List.cons_append, List.append_assoc, List.nil_append, List.cons.injEq, true_and] at h
      obtain ⟨e1, e2⟩ := str_inj h1 h2 h
      exact ⟨by rw [e1], e2⟩
    | _ => simp [kindE] at hk
  | .lst xs, e, t, u, hd, he, ht, hu, h => by
    have hk := head_kind hd he h
    cases e with
    | lst ys =>
      have h1 : clns xs = true := by simpa [cln] using hd
      have h2 : clns ys = true := by simpa [cln] using he
      match xs, ys, h1, h2, h with
      | [], [], _, _, h => exact ⟨rfl, List.append_cancel_left h⟩
      | [], y :: ys, _, h2, h =>
        rw [sh_nilL, sh_lst] at h
        simp only [clns, Bool.and_eq_true] at h2
        obtain ⟨c, r, e1, f1⟩ := first_of h2.1
        rw [e1] at h
        simp only [List.cons_append, List.append_assoc, List.nil_append, List.cons.injEq, true_and] at h
        exfalso
        have := h.1
        subst this
        cases y <;> first | (simp [first, dig] at f1; done) | (rename_i b; cases b <;> simp [first] at f1)
      | x :: xs, [], h1, _, h =>
        rw [sh_nilL, sh_lst] at h
        simp only [clns, Bool.and_eq_true] at h1
        obtain ⟨c, r, e1, f1⟩ := first_of h1.1
        rw [e1] at h
        simp only [List.cons_append, List.append_assoc, List.nil_append, List.cons.injEq, true_and] at h
        exfalso
        have := h.1
        subst this
        cases x <;> first | (simp [first, dig] at f1; done) | (rename_i b; cases b <;> simp [first] at f1)
      | x :: xs, y :: ys, h1, h2, h =>
        simp only [clns, Bool.and_eq_true] at h1 h2
        rw [sh_lst, sh_lst] at h
        simp only [List.cons_append, List.append_assoc, List.nil_append, List.cons.injEq, true_and] at h
        obtain ⟨e1, e2⟩ := sh_inj x y _ _ h1.1 h2.1 (more_stop rfl) (more_stop rfl) h
        obtain ⟨e3, e4⟩ := more_inj xs ys _ _ h1.2 h2.2 rfl rfl e2
        rw [e1, e3]
        exact ⟨rfl, (List.cons.inj e4).2⟩
    | _ => simp [kindE] at hk
  | .tup xs, e, t, u, hd, he, ht, hu, h => by
    have hk := head_kind hd he h
    cases e with
    | tup ys =>
      have h1 : clns xs = true := by simpa [cln] using hd
      have h2 : clns ys = true := by simpa [cln] using he
      match xs, ys, h1, h2, h with
      | [], [], _, _, h => exact ⟨rfl, List.append_cancel_left h⟩
      | [], y :: ys, _, h2, h =>
        rw [sh_nilT, sh_tup] at h
        simp only [clns, Bool.and_eq_true] at h2
        obtain ⟨c, r, e1, f1⟩ := first_of h2.1
        rw [e1] at h
        simp only [List.cons_append, List.append_assoc, List.nil_append, List.cons.injEq, true_and] at h
        exfalso
        have := h.1
        subst this
        cases y <;> first | (simp [first, dig] at f1; done) | (rename_i b; cases b <;> simp [first] at f1)
      | x :: xs, [], h1, _, h =>
        rw [sh_nilT, sh_tup] at h
        simp only [clns, Bool.and_eq_true] at h1
        obtain ⟨c, r, e1, f1⟩ := first_of h1.1
        rw [e1] at h
        simp only [List.cons_append, List.append_assoc, List.nil_append, List.cons.injEq, true_and] at h
        exfalso
        have := h.1
        subst this
        cases x <;> first | (simp [first, dig] at f1; done) | (rename_i b; cases b <;> simp [first] at f1)
      | x :: xs, y :: ys, h1, h2, h =>
        simp only [clns, Bool.and_eq_true] at h1 h2
        rw [sh_tup, sh_tup] at h
        simp only [List.cons_append, List.append_assoc, List.cons.injEq, true_and] at h
        have k : ∀ (zs : List D) (v : List Nat), endl ((if zs = [] then [44, 41] else [41]) ++ v) = true := by
          intro zs v
          split <;> rfl
        obtain ⟨e1, e2⟩ := sh_inj x y _ _ h1.1 h2.1 (more_stop (k _ _)) (more_stop (k _ _)) h
        obtain ⟨e3, e4⟩ := more_inj xs ys _ _ h1.2 h2.2 (k _ _) (k _ _) e2
        subst e1 e3
        exact ⟨rfl, List.append_cancel_left e4⟩
    | _ => simp [kindE] at hk
  | .dic _, _, _, _, hd, _, _, _, _ => by simp [cln] at hd
  | .raw _, _, _, _, hd, _, _, _, _ => by simp [cln] at hd
theorem more_inj : ∀ (xs ys : List D) (t u : List Nat), clns xs = true → clns ys = true → endl t = true → endl u = true → more xs ++ t = more ys ++ u → xs = ys ∧ t = u
  | [], [], _, _, _, _, _, _, h => ⟨rfl, h⟩
  | [], y :: ys, t, u, _, _, ht, _, h => by
    have h : t = 44 :: 32 :: (shD y ++ more ys ++ u) := h
    rw [h] at ht
    simp [endl] at ht
  | x :: xs, [], t, u, _, _, _, hu, h => by
    have h : u = 44 :: 32 :: (shD x ++ more xs ++ t) := h.symm
    rw [h] at hu
    simp [endl] at hu
  | x :: xs, y :: ys, t, u, h1, h2, ht, hu, h => by
    simp only [clns, Bool.and_eq_true] at h1 h2
    simp only [more, List.cons_append, List.append_assoc, List.cons.injEq, true_and] at h
    obtain ⟨e1, e2⟩ := sh_inj x y _ _ h1.1 h2.1 (more_stop ht) (more_stop hu) h
    obtain ⟨e3, e4⟩ := more_inj xs ys _ _ h1.2 h2.2 ht hu e2
    exact ⟨by rw [e1, e3], e4⟩
end
/-- repr tells plain data apart -/
theorem shD_inj {d e : D} (hd : cln d = true) (he : cln e = true) (h : shD d = shD e) : d = e := (sh_inj d e [] [] hd he rfl rfl (by rw [h])).1
theorem shD_beq {d e : D} (hd : cln d = true) (he : cln e = true) : deq (.str (shD d)) (.str (shD e)) = true ↔ d = e := by
  show (shD d == shD e) = true ↔ _
  rw [beq_iff_eq]
  exact ⟨shD_inj hd he, fun h => by rw [h]⟩
mutual
theorem sh_small : ∀ (d : D), cln d = true → ∀ c ∈ shD d, c < 128
  | .non, _, c, hc => by rw [sh_non] at hc; revert c; decide
  | .bl true, _, c, hc => by rw [sh_true] at hc; revert c; decide
  | .bl false, _, c, hc => by rw [sh_false] at hc; revert c; decide
  | .int i, _, c, hc => by
    have := txt_dig i c hc
    unfold dig at this
    simp only [Bool.or_eq_true, beq_iff_eq, Bool.and_eq_true, decide_eq_true_eq] at this
    omega
  | .str z, h, c, hc => by
    have h1 : z.all safe = true := by simpa [cln] using h
    rw [sh_str h1] at hc
    simp only [List.mem_cons, List.mem_append, List.not_mem_nil, or_false] at hc
    rcases hc with rfl | hc | rfl
    · decide
    · have := List.all_eq_true.mp h1 c hc
      unfold safe at this
      simp only [Bool.and_eq_true, decide_eq_true_eq] at this
      omega
    · decide
  | .tup [], _, c, hc => by rw [sh_nilT] at hc; revert c; decide
  | .tup (x :: xs), h, c, hc => by
    simp only [cln, clns, Bool.and_eq_true] at h
    rw [sh_tup] at hc
    simp only [List.mem_cons, List.mem_append] at hc
    rcases hc with rfl | hc | hc | hc
    · decide
    · exact sh_small x h.1 c hc
    · exact more_small xs h.2 c hc
    · split at hc <;> (revert c; decide)
  | .lst [], _, c, hc => by rw [sh_nilL] at hc; revert c; decide
  | .lst (x :: xs), h, c, hc => by
    simp only [cln, clns, Bool.and_eq_true] at h
    rw [sh_lst] at hc
    simp only [List.mem_cons, List.mem_append, List.not_mem_nil, or_false] at hc
    rcases hc with rfl | hc | hc | rfl
    · decide
    · exact sh_small x h.1 c hc
    · exact more_small xs h.2 c hc
    · decide
  | .dic _, h, _, _ => by simp [cln] at h
  | .raw _, h, _, _ => by simp [cln] at h
theorem more_small : ∀ (xs : List D), clns xs = true → ∀ c ∈ more xs, c < 128
  | [], _, _, hc => by cases hc
  | x :: xs, h, c, hc => by
    simp only [clns, Bool.and_eq_true] at h
    simp only [more, List.mem_cons, List.mem_append] at hc
    rcases hc with rfl | rfl | hc | hc
    · decide
    · decide
    · exact sh_small x h.1 c hc
    · exact more_small xs h.2 c hc
end
theorem shD_ok {d : D} (h : cln d = true) (n : Nat) : ok n (.str (shD d)) = true := by
  simp only [ok, List.all_eq_true, decide_eq_true_eq]
  exact fun c hc => Nat.lt_trans (sh_small d h c hc) (by decide)
end DL

/-! sorting: the plain facts -/
namespace DL
open PySem PySem.Spec PyProof.Rows L2
/-- a strict total order on P -/
structure Strict {α : Type} (P : α → Prop) (lt : α → α → Bool) : Prop where
  irr : ∀ x, P x → lt x x = false
  tri : ∀ x y, P x → P y → lt x y = false → lt y x = false → x = y
  tr : ∀ x y z, P x → P y → P z → lt x y = true → lt y z = true → lt x z = true
section
variable {α : Type} {P : α → Prop} {lt : α → α → Bool}
theorem Strict.asym (h : Strict P lt) {x y : α} (hx : P x) (hy : P y) (q : lt x y = true) : lt y x = false := by
  rw [Bool.eq_false_iff]
  intro z
  have := h.tr x y x hx hy hx q z
  rw [h.irr x hx] at this; cases this
theorem Strict.leTr (h : Strict P lt) {x y z : α} (hx : P x) (hy : P y) (hz : P z) (h1 : lt y x = false) (h2 : lt z y = false) : lt z x = false := by
  by_cases e1 : x = y
  · subst e1; exact h2
  by_cases e2 : y = z
  · subst e2; exact h1
  have l1 : lt x y = true := by
    rw [← Bool.not_eq_false]
    exact fun q => e1 (h.tri x y hx hy q h1)
  have l2 : lt y z = true := by
    rw [← Bool.not_eq_false]
    exact fun q => e2 (h.tri y z hy hz q h2)
  exact h.asym hx hz (h.tr x y z hx hy hz l1 l2)
open Classical in
/-- merge sort sorts, if the order is one on the list's items -/
theorem sorted_on (h : Strict P lt) {l : List α} (hl : ∀ x ∈ l, P x) : (l.mergeSort fun x y => !lt y x).Pairwise fun x y => lt y x = false := by
  have e : l.mergeSort (fun x y => !lt y x) = l.mergeSort (fun x y => decide (¬ P y) || (decide (P x) && !lt y x)) := W.sort_congr fun x hx y hy => by simp [hl x hx, hl y hy]
  rw [e]
  have s := List.pairwise_mergeSort (le := fun x y => decide (¬ P y) || (decide (P x) && !lt y x)) (fun x y z h1 h2 => ?_) (fun x y => ?_) l
  · refine List.Pairwise.imp_of_mem ?_ s
    intro x y hx hy q
    have px := hl x ((List.mergeSort_perm l _).mem_iff.mp hx)
    have py := hl y ((List.mergeSort_perm l _).mem_iff.mp hy)
    simpa [px, py] using q
  · by_cases pz : P z
    · by_cases py : P y
      · by_cases px : P x
        · simp [px, py, pz] at h1 h2 ⊢
          exact h.leTr px py pz h1 h2
        · simp [px, py] at h1
      · simp [py, pz] at h2
    · simp [pz]
  · by_cases py : P y
    · by_cases px : P x
      · simp only [px, py, not_true, decide_false, Bool.false_or, decide_true, Bool.true_and]
        cases q : lt y x with
        | false => rfl
        | true => rw [h.asym py px q]; rfl
      · simp [px]
    · simp [py]
/-- one list alone is sorted -/
theorem sorted_one (h : Strict P lt) {l m : List α} (hl : ∀ x ∈ l, P x) (p : l.Perm m) (s1 : l.Pairwise fun x y => lt y x = false) (s2 : m.Pairwise fun x y => lt y x = false) : l = m :=
  List.Perm.eq_of_pairwise (le := fun x y => lt y x = false) (fun x y hx hy q1 q2 => h.tri x y (hl x hx) (hl y (p.mem_iff.mpr hy)) q2 q1) s1 s2 p
/-- a test that holds at a first part of a list alone -/
theorem take_filter {p : α → Bool} : ∀ {l : List α}, (l.Pairwise fun x y => p y = true → p x = true) → l.take (l.filter p).length = l.filter p ∧ l.drop (l.filter p).length = l.filter fun x => !p x
  | [], _ => ⟨rfl, rfl⟩
  | x :: l, h => by
    rw [List.pairwise_cons] at h
    obtain ⟨h1, h2⟩ := take_filter h.2
    by_cases q : p x = true
    · rw [List.filter_cons_of_pos q, List.filter_cons_of_neg (by rw [q]; decide)]
      simp only [List.length_cons, List.take_succ_cons, List.drop_succ_cons, h1, h2, and_self]
    · have none_ : l.filter p = [] := by
        rw [List.filter_eq_nil_iff]
        exact fun y hy z => q (h.1 y hy z)
      rw [List.filter_cons_of_neg q, none_, List.filter_cons_of_pos (by simpa using q)]
      have all_ : (l.filter fun x => !p x) = l := by
        rw [List.filter_eq_self]
        exact fun y hy => by simpa using fun z => q (h.1 y hy z)
      rw [all_]
      exact ⟨rfl, rfl⟩
/-- an item put behind all that are not behind it -/
def putB (lt : α → α → Bool) (xs : List α) (x : α) : List α := let n := (xs.filter fun y => !lt x y).length; xs.take n ++ [x] ++ xs.drop n
theorem putB_perm (xs : List α) (x : α) : (putB lt xs x).Perm (x :: xs) := by
  unfold putB
  simp only
  generalize (xs.filter fun y => !lt x y).length = n
  rw [List.append_assoc, List.singleton_append]
  refine (List.perm_middle).trans ?_
  rw [List.take_append_drop]
theorem putB_sorted (h : Strict P lt) {xs : List α} {x : α} (hx : P x) (hl : ∀ y ∈ xs, P y) (s : xs.Pairwise fun x y => lt y x = false) : (putB lt xs x).Pairwise fun x y => lt y x = false := by
  have mono : xs.Pairwise fun a b => (fun y => !lt x y) b = true → (fun y => !lt x y) a = true := by
    refine List.Pairwise.imp_of_mem ?_ s
    intro a b ha hb q z
    simp only [Bool.not_eq_true'] at z ⊢
    exact h.leTr (hl a ha) (hl b hb) hx q z
  obtain ⟨h1, h2⟩ := take_filter mono
  unfold putB
  simp only
  rw [h1, h2, List.append_assoc, List.singleton_append, List.pairwise_append, List.pairwise_cons]
  refine ⟨s.filter _, ⟨fun y hy => ?_, s.filter _⟩, fun a ha b hb => ?_⟩
  · have := List.mem_filter.mp hy
    simp only [Bool.not_not] at this
    exact h.asym hx (hl y this.1) this.2
  · have ha2 := List.mem_filter.mp ha
    simp only [Bool.not_eq_true'] at ha2
    rcases List.mem_cons.mp hb with rfl | hb
    · exact ha2.2
    · have hb2 := List.mem_filter.mp hb
      simp only [Bool.not_not] at hb2
      exact h.leTr (hl a ha2.1) hx (hl b hb2.1) ha2.2 (h.asym hx (hl b hb2.1) hb2.2)
theorem putsB_perm : ∀ (xs acc : List α), (xs.foldl (putB lt) acc).Perm (xs ++ acc)
  | [], acc => .refl _
  | x :: xs, acc => ((putsB_perm xs (putB lt acc x)).trans ((putB_perm acc x).append_left xs)).trans List.perm_middle
theorem putsB_sorted (h : Strict P lt) : ∀ (xs acc : List α), (∀ x ∈ xs, P x) → (∀ x ∈ acc, P x) → (acc.Pairwise fun x y => lt y x = false) → (xs.foldl (putB lt) acc).Pairwise fun x y => lt y x = false
  | [], acc, _, _, s => s
  | x :: xs, acc, h1, h2, s => putsB_sorted h xs (putB lt acc x) (fun y hy => h1 y (List.mem_cons_of_mem _ hy)) (fun y hy => by
      rcases List.mem_cons.mp ((putB_perm acc x).mem_iff.mp hy) with rfl | hy
      · exact h1 _ (List.mem_cons_self ..)
      · exact h2 y hy) (putB_sorted h (h1 x (List.mem_cons_self ..)) h2 s)
end
/-! pairs of a rank and a place -/
def prs (rank : D → D) : Nat → List D → List D
  | _, [] => []
  | k, x :: xs => .tup [rank x, .int (k : Nat)] :: prs rank (k + 1) xs
theorem prs_len (rank : D → D) : ∀ (k : Nat) (xs : List D), (prs rank k xs).length = xs.length
  | _, [] => rfl
  | k, x :: xs => by simp [prs, prs_len rank (k + 1) xs]
theorem prs_mem {rank : D → D} : ∀ {k : Nat} {xs : List D} {p : D}, p ∈ prs rank k xs → ∃ (i : Nat) (x : D), xs[i]? = some x ∧ p = .tup [rank x, .int ((k + i : Nat) : Int)]
  | _, [], _, h => by cases h
  | k, x :: xs, p, h => by
    rcases List.mem_cons.mp h with rfl | h
    · exact ⟨0, x, rfl, rfl⟩
    · obtain ⟨i, y, h1, h2⟩ := prs_mem h
      exact ⟨i + 1, y, by simpa using h1, by rw [h2, Nat.add_assoc, Nat.add_comm 1 i]⟩
/-- what a pair's place holds -/
def atPr (xs : List D) : D → D
  | .tup [_, .int i] => xs.getD i.toNat .non
  | _ => .non
theorem prs_get {rank : D → D} : ∀ {k : Nat} {xs ys : List D}, (∀ i, xs[i]? = ys[k + i]?) → (prs rank k xs).map (atPr ys) = xs
  | _, [], _, _ => rfl
  | k, x :: xs, ys, h => by
    have h0 := h 0
    simp only [prs, List.map_cons]
    rw [prs_get fun i => by have := h (i + 1); rw [Nat.add_assoc, Nat.add_comm 1 i]; simpa using this]
    have : atPr ys (.tup [rank x, .int (k : Nat)]) = x := by
      simp only [atPr, Int.toNat_natCast]
      rw [List.getD_eq_getElem?_getD]
      rw [show ys[k]? = some x by rw [← Nat.add_zero k, ← h0]; rfl]
      rfl
    rw [this]
section
variable {P : D → Prop} {rank : D → D}
/-- ranks tell the items apart -/
structure Ranks (P : D → Prop) (rank : D → D) : Prop where
  eq : ∀ x y, P x → P y → (deq (rank x) (rank y) = true ↔ x = y)
  st : Strict P fun x y => dlt (rank x) (rank y)
def PrOf (P : D → Prop) (rank : D → D) (p : D) : Prop := ∃ (x : D) (i : Nat), P x ∧ p = .tup [rank x, .int (i : Int)]
open Classical in
theorem dlt_pr (h : Ranks P rank) {x y : D} (hx : P x) (hy : P y) (i j : Int) : dlt (.tup [rank x, .int i]) (.tup [rank y, .int j]) = if x = y then decide (i < j) else dlt (rank x) (rank y) := by
  simp only [dlt, dlts]
  by_cases e : x = y
  · rw [if_pos ((h.eq x y hx hy).mpr e), if_pos e]
    by_cases q : i = j
    · subst q; simp [deq]
    · simp [deq, q]
  · rw [if_neg fun z => e ((h.eq x y hx hy).mp z), if_neg e]
open Classical in
theorem pairs_strict (h : Ranks P rank) : Strict (PrOf P rank) dlt where
  irr := by
    rintro _ ⟨x, i, hx, rfl⟩
    rw [dlt_pr h hx hx, if_pos rfl]
    simp
  tri := by
    rintro _ _ ⟨x, i, hx, rfl⟩ ⟨y, j, hy, rfl⟩ h1 h2
    rw [dlt_pr h hx hy] at h1
    rw [dlt_pr h hy hx] at h2
    by_cases e : x = y
    · subst e
      rw [if_pos rfl] at h1 h2
      simp at h1 h2
      have : i = j := by omega
      rw [this]
    · rw [if_neg e] at h1
      rw [if_neg (Ne.symm e)] at h2
      exact absurd (h.st.tri x y hx hy h1 h2) e
  tr := by
    rintro _ _ _ ⟨x, i, hx, rfl⟩ ⟨y, j, hy, rfl⟩ ⟨z, k, hz, rfl⟩ h1 h2
    rw [dlt_pr h hx hy] at h1
    rw [dlt_pr h hy hz] at h2
    rw [dlt_pr h hx hz]
    by_cases e1 : x = y
    · subst e1
      rw [if_pos rfl] at h1
      by_cases e2 : x = z
      · subst e2
        rw [if_pos rfl] at h2 ⊢
        simp at h1 h2 ⊢
        omega
      · rw [if_neg e2] at h2 ⊢
        exact h2
    · rw [if_neg e1] at h1
      by_cases e2 : y = z
      · subst e2
        rw [if_neg e1]
        exact h1
      · rw [if_neg e2] at h2
        have h3 := h.st.tr x y z hx hy hz h1 h2
        have e3 : x ≠ z := by
          rintro rfl
          have := (h.st.irr x hx).symm.trans h3
          cases this
        rw [if_neg e3]
        exact h3
/-- the items in the order of their pairs -/
theorem pairs_sorted (h : Ranks P rank) {xs : List D} (hP : ∀ x ∈ xs, P x) : (((prs rank 0 xs).mergeSort dle).map (atPr xs)).Perm xs ∧ (((prs rank 0 xs).mergeSort dle).map (atPr xs)).Pairwise fun x y => dlt (rank y) (rank x) = false := by
  have mem : ∀ p ∈ prs rank 0 xs, ∃ (i : Nat) (x : D), xs[i]? = some x ∧ P x ∧ p = .tup [rank x, .int (i : Int)] := fun p hp => by
    obtain ⟨i, x, h1, h2⟩ := prs_mem hp
    exact ⟨i, x, h1, hP x (List.mem_of_getElem? h1), by rw [h2, Nat.zero_add]⟩
  have hpr : ∀ p ∈ prs rank 0 xs, PrOf P rank p := fun p hp => by
    obtain ⟨i, x, _, h2, h3⟩ := mem p hp
    exact ⟨x, i, h2, h3⟩
  constructor
  · have := (List.mergeSort_perm (prs rank 0 xs) dle).map (atPr xs)
    rwa [prs_get fun i => by rw [Nat.zero_add]] at this
  · have s := sorted_on (pairs_strict h) hpr
    rw [List.pairwise_map]
    refine List.Pairwise.imp_of_mem ?_ s
    intro p q hp hq l
    obtain ⟨i, x, g1, g2, rfl⟩ := mem p ((List.mergeSort_perm _ _).mem_iff.mp hp)
    obtain ⟨j, y, k1, k2, rfl⟩ := mem q ((List.mergeSort_perm _ _).mem_iff.mp hq)
    have ax : atPr xs (.tup [rank x, .int (i : Int)]) = x := by simp only [atPr, Int.toNat_natCast, List.getD_eq_getElem?_getD, g1]; rfl
    have ay : atPr xs (.tup [rank y, .int (j : Int)]) = y := by simp only [atPr, Int.toNat_natCast, List.getD_eq_getElem?_getD, k1]; rfl
    rw [ax, ay]
    rw [dlt_pr h k2 g2] at l
    by_cases e : y = x
    · subst e; exact h.st.irr y k2
    · rw [if_neg e] at l; exact l
end
end DL

/-! what the defs of the law promise -/
namespace K02
open PySem PySem.Spec PyProof.Rows L2 DL
/-- the rank of a value -/
def rk : D → D
  | .str z => .tup [.int 1, .str z]
  | d => .tup [.int 0, d]
def low (z : List Nat) : Prop := ∀ c ∈ z, 97 ≤ c ∧ c ≤ 122
/-- an int, a short text of small letters -/
def Val : D → Prop
  | .int i => -1000000000000 ≤ i ∧ i ≤ 1000000000000
  | .str z => z.length ≤ 14 ∧ low z
  | _ => False
def Vals' (xs : List D) : Prop := ∀ x ∈ xs, Val x
/-- a row: a short tuple of such -/
def Row : D → Prop
  | .tup xs => xs.length ≤ 40 ∧ Vals' xs
  | _ => False
def rowOf : D → List D
  | .tup xs => xs
  | _ => []
def rrk (d : D) : D := .tup ((rowOf d).map rk)
def ahead (x y : D) : Bool := dlt (rk x) (rk y)
def rowAhead (x y : D) : Bool := dlt (rrk x) (rrk y)
/-- a line put behind all that are not behind it -/
def put (xs : List D) (x : D) : List D := let n := (xs.filter fun y => !rowAhead x y).length; xs.take n ++ [x] ++ xs.drop n
def putAll (xs : List D) : List D := xs.foldl put []
def f_value_rank : Fn := fun ds Q => ∃ d, ds = [d] ∧ Val d ∧ Q (rk d)
def f_row_rank : Fn := fun ds Q => ∃ d, ds = [d] ∧ Row d ∧ Q (rrk d)
/-- one of the items of a list, of the letters of a text -/
def f_pick (a : Addr) : Fn := fun ds Q => ∃ d, ds = [.raw (.ref a), d] ∧ ((∃ z, d = .str z ∧ z ≠ [] ∧ z.length ≤ 1000 ∧ ∀ c ∈ z, Q (.str [c])) ∨ ∃ xs, d = .lst xs ∧ xs ≠ [] ∧ xs.length ≤ 1000 ∧ ∀ x ∈ xs, Q x)
def f_word (a : Addr) : Fn := fun ds Q => ∃ n : Int, ds = [.raw (.ref a), .int n] ∧ 0 ≤ n ∧ n ≤ 1000 ∧ ∀ z : List Nat, z.length = n.toNat → low z → Q (.str z)
def f_stock (a : Addr) : Fn := fun ds Q => ds = [.raw (.ref a)] ∧ ∀ xs, xs.length = 7 → Vals' xs → Q (.lst xs)
def f_lines (a : Addr) : Fn := fun ds Q => ∃ st, ds = [.raw (.ref a), .lst st] ∧ st ≠ [] ∧ st.length ≤ 100 ∧ Vals' st ∧ ∀ rs, rs.length ≤ 12 → (∀ r ∈ rs, Row r) → Q (.lst rs)
def f_is_ahead : Fn := fun ds Q => ∃ x y, ds = [x, y] ∧ Val x ∧ Val y ∧ Q (.bl (ahead x y))
def f_is_row_ahead : Fn := fun ds Q => ∃ x y, ds = [x, y] ∧ Row x ∧ Row y ∧ Q (.bl (rowAhead x y))
def f_in_order : Fn := fun ds Q => ∃ rs, ds = [.lst rs] ∧ rs.length ≤ 16 ∧ (∀ r ∈ rs, Row r) ∧ Q (.lst (putAll rs))
def f_pair : Fn := fun ds Q => ∃ d, ds = [d] ∧ Val d ∧ Q (rk d)
def f_are_values_told : Fn := fun ds Q => ∃ xs, ds = [.lst xs] ∧ xs.length ≤ 16 ∧ Vals' xs ∧ Q (.bl true)
def f_are_rows_told : Fn := fun ds Q => ∃ rs, ds = [.lst rs] ∧ rs.length ≤ 12 ∧ (∀ r ∈ rs, Row r) ∧ Q (.bl true)
end K02

namespace K02
open PySem PySem.Spec PyProof.Rows L2 DL
/-- value_rank -/
def t_value_rank : XS :=
  (dRet (dIf (dTst (dB bIsa (dCons (dV 0) (dCons (dC (.raw (.ty "str"))) dNil)))) (dTup (dCons (dC (.int 1)) (dCons (dV 0) dNil))) (dTup (dCons (dC (.int 0)) (dCons (dV 0) dNil)))))
/-- row_rank -/
def t_row_rank : XS :=
  (dRet (dB bTuple (dCons (dFz (dLc (iTp (dV 0)) (bNm 1) dYes (dCall f_value_rank (dCons (dV 1) dNil)) [1])) dNil)))
/-- pick -/
def t_pick (a : Addr) : XS :=
  (dRet (dBin oIx (dV 1) (dCall (fDraw a) (dCons (dV 0) (dCons (dB bLen (dCons (dV 1) dNil)) dNil)))))
/-- word -/
def t_word (a : Addr) : XS :=
  (dRet (dJoin (dC (.str [])) (dFz (dLc (iRg1 (dCons (dV 1) dNil)) (bNm 2) dYes (dCall (f_pick a) (dCons (dV 0) (dCons (dC (.str [97, 98, 99, 100, 101, 102, 103, 104, 105, 106, 107, 108, 109, 110, 111, 112, 113, 114, 115, 116, 117, 118, 119, 120, 121, 122])) dNil))) [2]))))
/-- stock -/
def t_stock (a : Addr) : XS :=
  (dSeq (dPar3 1 2 3 (dCons (dCall (fDraw a) (dCons (dV 0) (dCons (dBin oPow (dC (.int 10)) (dC (.int 9))) dNil))) (dCons (dCall (f_word a) (dCons (dV 0) (dCons (dBin oAdd (dC (.int 1)) (dCall (fDraw a) (dCons (dV 0) (dCons (dC (.int 11)) dNil)))) dNil))) (dCons (dCall (f_word a) (dCons (dV 0) (dCons (dC (.int 1)) dNil))) dNil))))
  (dSeq (dSet 4 (dFz (dLst (dCons (dV 1) (dCons (dBin oAdd (dV 1) (dC (.int 1))) (dCons (dUn oNeg (dV 1)) (dCons (dBin oSub (dUn oNeg (dV 1)) (dC (.int 1))) (dCons (dBin oPow (dC (.int 10)) (dC (.int 9))) (dCons (dUn oNeg (dBin oPow (dC (.int 10)) (dC (.int 9)))) (dCons (dC (.int 0)) (dCons (dC (.int 1)) (dCons (dCall (fDraw a) (dCons (dV 0) (dCons (dC (.int 12)) dNil))) (dCons (dV 2) (dCons (dBin oAdd (dV 2) (dV 3)) dNil))))))))))))))
  (dSeq (dSet 4 (dFz (dBinF oCat (dV 4) (dFz (dLst (dCons (dV 3) (dCons (dBin oMulS (dV 3) (dC (.int 12))) (dCons (dBin oAdd (dCut (dV 2) dNoP (dPart (dUn oNeg (dC (.int 1))))) (dV 3)) (dCons (dBin oAdd (dV 2) (dC (.str [97]))) (dCons (dCut (dV 2) dNoP (dPart (dC (.int 1)))) dNil))))))))))
  (dRet (dFz (dLc (iRg1 (dCons (dC (.int 7)) dNil)) (bNm 5) dYes (dCall (f_pick a) (dCons (dV 0) (dCons (dV 4) dNil))) [5]))))))
/-- lines -/
def t_lines (a : Addr) : XS :=
  (dSeq (dSetO 2 (dLst (dCons (dTup dNil) dNil)))
  (dSeq (dFor (iRg1 (dCons (dC (.int 6)) dNil)) (bNm 3)
  (dSeq (dPar 4 5 (dCons (dCall (fDraw a) (dCons (dV 0) (dCons (dC (.int 4)) dNil))) (dCons (dLock 2 (dCall (f_pick a) (dCons (dV 0) (dCons (dV 2) dNil)))) dNil)))
  (dIfS (dTst (dBin oEq (dV 4) (dC (.int 0))))
  (dApp 2 (dBin oAdd (dV 5) (dTup (dCons (dCall (f_pick a) (dCons (dV 0) (dCons (dV 1) dNil))) dNil))))
  (dIfS (dTst (dBin oEq (dV 4) (dC (.int 1))))
  (dApp 2 (dCut (dV 5) dNoP (dPart (dCall (fDraw a) (dCons (dV 0) (dCons (dBin oAdd (dB bLen (dCons (dV 5) dNil)) (dC (.int 1))) dNil))))))
  (dIfS (dAnd (dTst (dBin oEq (dV 4) (dC (.int 2)))) (dTst (dBin oNe (dV 5) (dTup dNil))))
  (dSeq (dSet 6 (dCall (fDraw a) (dCons (dV 0) (dCons (dB bLen (dCons (dV 5) dNil)) dNil))))
  (dApp 2 (dBin oAdd (dBin oAdd (dCut (dV 5) dNoP (dPart (dV 6))) (dTup (dCons (dCall (f_pick a) (dCons (dV 0) (dCons (dV 1) dNil))) dNil))) (dCut (dV 5) (dPart (dBin oAdd (dV 6) (dC (.int 1)))) dNoP))))
  (dSeq (dSet 7 (dCall (f_pick a) (dCons (dV 0) (dCons (dFz (dLst (dCons (dC (.int 1)) (dCons (dC (.int 2)) (dCons (dC (.int 3)) (dCons (dC (.int 6)) (dCons (dC (.int 30)) dNil))))))) dNil))))
  (dApp 2 (dB bTuple (dCons (dFz (dLc (iRg1 (dCons (dV 7) dNil)) (bNm 8) dYes (dCall (f_pick a) (dCons (dV 0) (dCons (dV 1) dNil))) [8])) dNil)))))))))
  (dFrz 2 (dRet (dV 2)))))
/-- is_ahead -/
def t_is_ahead : XS :=
  (dSeq (dIfS (dOr (dTst (dB bIsa (dCons (dV 0) (dCons (dC (.raw (.ty "int"))) dNil)))) (dTst (dB bIsa (dCons (dV 1) (dCons (dC (.raw (.ty "int"))) dNil)))))
  (dRet (dAndV (dB bIsa (dCons (dV 0) (dCons (dC (.raw (.ty "int"))) dNil))) (dOrV (dNotV (dB bIsa (dCons (dV 1) (dCons (dC (.raw (.ty "int"))) dNil)))) (dBin oLt (dV 0) (dV 1)))))
  dNext)
  (dSeq (dFor (iRg1 (dCons (dB bMin (dCons (dB bLen (dCons (dV 0) dNil)) (dCons (dB bLen (dCons (dV 1) dNil)) dNil))) dNil)) (bNm 2)
  (dIfS (dTst (dBin oNe (dBin oIx (dV 0) (dV 2)) (dBin oIx (dV 1) (dV 2))))
  (dRet (dBin oLt (dB bOrd (dCons (dBin oIx (dV 0) (dV 2)) dNil)) (dB bOrd (dCons (dBin oIx (dV 1) (dV 2)) dNil))))
  dNext))
  (dRet (dBin oLt (dB bLen (dCons (dV 0) dNil)) (dB bLen (dCons (dV 1) dNil))))))
/-- is_row_ahead -/
def t_is_row_ahead : XS :=
  (dSeq (dFor (iRg1 (dCons (dB bMin (dCons (dB bLen (dCons (dV 0) dNil)) (dCons (dB bLen (dCons (dV 1) dNil)) dNil))) dNil)) (bNm 2)
  (dIfS (dTst (dBin oNe (dBin oIx (dV 0) (dV 2)) (dBin oIx (dV 1) (dV 2))))
  (dRet (dCall f_is_ahead (dCons (dBin oIx (dV 0) (dV 2)) (dCons (dBin oIx (dV 1) (dV 2)) dNil))))
  dNext))
  (dRet (dBin oLt (dB bLen (dCons (dV 0) dNil)) (dB bLen (dCons (dV 1) dNil)))))
/-- in_order -/
def t_in_order : XS :=
  (dSeq (dSetO 1 (dLst dNil))
  (dSeq (dFor (iLst (dV 0)) (bNm 2)
  (dIns 1 (dLock 1 (dB bLen (dCons (dFz (dLc (iLst (dV 1)) (bNm 3) (dNot (dTst (dCall f_is_row_ahead (dCons (dV 2) (dCons (dV 3) dNil))))) (dV 3) [3])) dNil))) (dV 2)))
  (dFrz 1 (dRet (dV 1)))))
/-- pair -/
def t_pair : XS :=
  (dRet (dIf (dTst (dB bIsa (dCons (dV 0) (dCons (dC (.raw (.ty "int"))) dNil)))) (dTup (dCons (dC (.int 0)) (dCons (dV 0) dNil))) (dTup (dCons (dC (.int 1)) (dCons (dV 0) dNil)))))
/-- are_values_told -/
def t_are_values_told : XS :=
  (dSeq (dFor (iLst (dV 0)) (bNm 1)
  (dSeq (dIfS (dTst (dBin oNe (dB bRepr (dCons (dFz (dLst (dCons (dCall f_value_rank (dCons (dV 1) dNil)) (dCons (dCallK f_value_rank 0 1 dNil (dCons (dV 1) dNil)) dNil)))) dNil)) (dB bRepr (dCons (dFz (dMulL (dLst (dCons (dCall f_pair (dCons (dV 1) dNil)) dNil)) (dC (.int 2)))) dNil))))
  (dRet (dC (.bl false)))
  dNext)
  (dFor (iLst (dV 0)) (bNm 2)
  (dSeq (dSet 3 (dFz (dLst (dCons (dCall f_value_rank (dCons (dV 1) dNil)) (dCons (dCall f_value_rank (dCons (dV 2) dNil)) dNil)))))
  (dSeq (dIfS (dTst (dBin oNe (dBin oLt (dBin oIx (dV 3) (dC (.int 0))) (dBin oIx (dV 3) (dC (.int 1)))) (dCall f_is_ahead (dCons (dV 1) (dCons (dV 2) dNil)))))
  (dRet (dC (.bl false)))
  dNext)
  (dIfS (dTst (dBin oNe (dBin oEq (dBin oIx (dV 3) (dC (.int 0))) (dBin oIx (dV 3) (dC (.int 1)))) (dBin oEq (dB bRepr (dCons (dV 1) dNil)) (dB bRepr (dCons (dV 2) dNil)))))
  (dRet (dC (.bl false)))
  dNext))))))
  (dSeq (dSet 4 (dFz (dBF bSorted (dCons (dFz (dLc (iEn (dCons (dV 0) dNil)) (bTup [(bNm 6), (bNm 7)]) dYes (dTup (dCons (dCall f_value_rank (dCons (dV 7) dNil)) (dCons (dV 6) dNil))) [6, 7])) dNil))))
  (dSeq (dSet 5 (dCall f_in_order (dCons (dFz (dLc (iLst (dV 0)) (bNm 7) dYes (dTup (dCons (dV 7) dNil)) [7])) dNil)))
  (dRet (dBin oEq (dB bRepr (dCons (dFz (dLc (iLst (dV 4)) (bNm 8) dYes (dBin oIx (dV 0) (dBin oIx (dV 8) (dC (.int 1)))) [8])) dNil)) (dB bRepr (dCons (dFz (dLc (iLst (dV 5)) (bNm 9) dYes (dBin oIx (dV 9) (dC (.int 0))) [9])) dNil)))))))
/-- are_rows_told -/
def t_are_rows_told : XS :=
  (dSeq (dFor (iLst (dV 0)) (bNm 1)
  (dSeq (dSet 2 (dB bTuple (dCons (dFz (dLc (iTp (dV 1)) (bNm 10) dYes (dCall f_pair (dCons (dV 10) dNil)) [10])) dNil)))
  (dIfS (dTst (dBin oNe (dB bRepr (dCons (dFz (dLst (dCons (dCall f_row_rank (dCons (dV 1) dNil)) (dCons (dCallK f_row_rank 0 1 dNil (dCons (dV 1) dNil)) (dCons (dCall f_row_rank (dCons (dV 1) dNil)) dNil))))) dNil)) (dB bRepr (dCons (dFz (dMulL (dLst (dCons (dV 2) dNil)) (dC (.int 3)))) dNil))))
  (dRet (dC (.bl false)))
  dNext)))
  (dSeq (dSetF 3 (dLc (iLst (dV 0)) (bNm 1) dYes (dCall f_row_rank (dCons (dV 1) dNil)) [1]))
  (dSeq (dFor (iEn (dCons (dV 0) dNil)) (bTup [(bNm 4), (bNm 1)])
  (dFor (iEn (dCons (dV 0) dNil)) (bTup [(bNm 5), (bNm 6)])
  (dSeq (dIfS (dTst (dBin oNe (dBin oLt (dBin oIx (dV 3) (dV 4)) (dBin oIx (dV 3) (dV 5))) (dCall f_is_row_ahead (dCons (dV 1) (dCons (dV 6) dNil)))))
  (dRet (dC (.bl false)))
  dNext)
  (dIfS (dTst (dBin oNe (dBin oEq (dBin oIx (dV 3) (dV 4)) (dBin oIx (dV 3) (dV 5))) (dBin oEq (dB bRepr (dCons (dV 1) dNil)) (dB bRepr (dCons (dV 6) dNil)))))
  (dRet (dC (.bl false)))
  dNext))))
  (dSeq (dSet 7 (dFz (dBF bSorted (dCons (dFz (dLc (iEn (dCons (dV 3) dNil)) (bTup [(bNm 8), (bNm 9)]) dYes (dTup (dCons (dV 9) (dCons (dV 8) dNil))) [8, 9])) dNil))))
  (dRet (dBin oEq (dB bRepr (dCons (dFz (dLc (iLst (dV 7)) (bNm 11) dYes (dBin oIx (dV 0) (dBin oIx (dV 11) (dC (.int 1)))) [11])) dNil)) (dB bRepr (dCons (dCall f_in_order (dCons (dV 0) dNil)) dNil))))))))
end K02

namespace K02
open PySem PySem.Spec PyProof.Rows L2 DL
/-! values, rows: the plain facts -/
theorem Val.cases {d : D} (h : Val d) : (∃ i : Int, d = .int i ∧ -1000000000000 ≤ i ∧ i ≤ 1000000000000) ∨ ∃ z, d = .str z ∧ z.length ≤ 14 ∧ low z := by
  cases d with
  | int i => exact .inl ⟨i, rfl, h⟩
  | str z => exact .inr ⟨z, rfl, h⟩
  | _ => exact h.elim
theorem Row.cases {d : D} (h : Row d) : ∃ xs, d = .tup xs ∧ xs.length ≤ 40 ∧ Vals' xs := by
  cases d with
  | tup xs => exact ⟨xs, rfl, h⟩
  | _ => exact h.elim
theorem low_safe {z : List Nat} (h : low z) : z.all safe = true := by
  rw [List.all_eq_true]
  intro c hc
  have := h c hc
  unfold safe
  simp only [Bool.and_eq_true, decide_eq_true_eq, bne_iff_ne]
  omega
theorem low_ok {z : List Nat} (h : low z) : (z.all fun c => decide (c < 0x110000)) = true := by
  rw [List.all_eq_true]
  intro c hc
  have := h c hc
  simp only [decide_eq_true_eq]
  omega
theorem log_small {i : Int} (h1 : -1000000000000 ≤ i) (h2 : i ≤ 1000000000000) : i.natAbs.log2 < 40 := by
  by_cases h : i.natAbs = 0
  · rw [h]; decide
  · exact (Nat.log2_lt h).mpr (by omega)
theorem val_ok {d : D} (h : Val d) (n : Nat) : ok n d = true ∧ cln d = true ∧ sint d = true ∧ wt d ≤ 40 ∧ d ≠ .non ∧ isRaw d = false := by
  rcases h.cases with ⟨i, rfl, h1, h2⟩ | ⟨z, rfl, h1, h2⟩
  · have := log_small h1 h2
    refine ⟨rfl, rfl, ?_, ?_, by simp, rfl⟩
    · simp only [sint, decide_eq_true_eq]; omega
    · simp only [wt]; omega
  · refine ⟨?_, ?_, rfl, by simp only [wt]; omega, by simp, rfl⟩
    · simp only [ok]; exact low_ok h2
    · simp only [cln]; exact low_safe h2
theorem wts_le {xs : List D} {k : Nat} (h : ∀ x ∈ xs, wt x ≤ k) : wts xs ≤ xs.length * (k + 1) := by
  induction xs with
  | nil => simp [wts]
  | cons x xs ih =>
    have h1 := h x (List.mem_cons_self ..)
    have h2 := ih fun y hy => h y (List.mem_cons_of_mem _ hy)
    simp only [wts, List.length_cons]
    have : (xs.length + 1) * (k + 1) = xs.length * (k + 1) + (k + 1) := Nat.succ_mul _ _
    omega
/-- plain: may be shown, compared -/
structure Pl (n k : Nat) (d : D) : Prop where
  ok : ok n d = true
  cln : cln d = true
  sint : sint d = true
  wt : wt d ≤ k
theorem Pl.mono {n m k l : Nat} {d : D} (h : Pl n k d) (h1 : n ≤ m) (h2 : k ≤ l) : Pl m l d := ⟨ok_mono h.ok h1, h.cln, h.sint, Nat.le_trans h.wt h2⟩
theorem Pl.tup {n k : Nat} {xs : List D} (h : ∀ x ∈ xs, Pl n k x) : Pl (n + 1) (xs.length * (k + 1)) (.tup xs) :=
  ⟨by simp only [DL.ok, Bool.and_eq_true]; exact ⟨by simp, oks_iff.mpr fun x hx => (h x hx).ok⟩, by simp only [DL.cln]; exact clns_iff.mpr fun x hx => (h x hx).cln, by simp only [DL.sint]; exact sints_iff.mpr fun x hx => (h x hx).sint, by simp only [DL.wt]; exact wts_le fun x hx => (h x hx).wt⟩
theorem Pl.lst {n k : Nat} {xs : List D} (h : ∀ x ∈ xs, Pl n k x) : Pl (n + 1) (xs.length * (k + 1)) (.lst xs) :=
  ⟨by simp only [DL.ok, Bool.and_eq_true]; exact ⟨by simp, oks_iff.mpr fun x hx => (h x hx).ok⟩, by simp only [DL.cln]; exact clns_iff.mpr fun x hx => (h x hx).cln, by simp only [DL.sint]; exact sints_iff.mpr fun x hx => (h x hx).sint, by simp only [DL.wt]; exact wts_le fun x hx => (h x hx).wt⟩
theorem val_pl {d : D} (h : Val d) : Pl 0 40 d := ⟨(val_ok h 0).1, (val_ok h 0).2.1, (val_ok h 0).2.2.1, (val_ok h 0).2.2.2.1⟩
theorem rk_eq {d : D} (h : Val d) : ∃ k : Int, (k = 0 ∨ k = 1) ∧ rk d = .tup [.int k, d] := by
  rcases h.cases with ⟨i, rfl, _⟩ | ⟨z, rfl, _⟩
  · exact ⟨0, .inl rfl, rfl⟩
  · exact ⟨1, .inr rfl, rfl⟩
theorem rk_pl {d : D} (h : Val d) : Pl 1 82 (rk d) := by
  obtain ⟨k, hk, e⟩ := rk_eq h
  rw [e]
  refine (Pl.tup (n := 0) (k := 40) (xs := [.int k, d]) fun x hx => ?_).mono (Nat.le_refl _) (Nat.le_of_eq rfl)
  rcases List.mem_cons.mp hx with rfl | hx
  · rcases hk with rfl | rfl <;> exact ⟨rfl, rfl, by decide +kernel, by decide +kernel⟩
  · rw [List.mem_singleton.mp hx]; exact val_pl h
theorem row_pl {d : D} (h : Row d) : Pl 1 1640 d := by
  obtain ⟨xs, rfl, h1, h2⟩ := h.cases
  have := Pl.tup (n := 0) (k := 40) (xs := xs) fun x hx => val_pl (h2 x hx)
  exact this.mono (Nat.le_refl _) (by omega)
theorem rrk_pl {d : D} (h : Row d) : Pl 2 3320 (rrk d) := by
  obtain ⟨xs, rfl, h1, h2⟩ := h.cases
  have := Pl.tup (n := 1) (k := 82) (xs := xs.map rk) fun x hx => by
    obtain ⟨y, hy, rfl⟩ := List.mem_map.mp hx
    exact rk_pl (h2 y hy)
  exact this.mono (Nat.le_refl _) (by rw [List.length_map]; omega)
/-! == -/
theorem deq_val {x y : D} (hx : Val x) (hy : Val y) : deq x y = true ↔ x = y := by
  rcases hx.cases with ⟨i, rfl, _⟩ | ⟨z, rfl, _⟩ <;> rcases hy.cases with ⟨j, rfl, _⟩ | ⟨u, rfl, _⟩ <;> simp [deq]
theorem deq_rk {x y : D} (hx : Val x) (hy : Val y) : deq (rk x) (rk y) = true ↔ x = y := by
  rcases hx.cases with ⟨i, rfl, _⟩ | ⟨z, rfl, _⟩ <;> rcases hy.cases with ⟨j, rfl, _⟩ | ⟨u, rfl, _⟩ <;> simp [rk, deq, deqs]
theorem deqs_rk : ∀ {xs ys : List D}, Vals' xs → Vals' ys → (deqs (xs.map rk) (ys.map rk) = true ↔ xs = ys)
  | [], [], _, _ => by simp [deqs]
  | [], _ :: _, _, _ => by simp [deqs]
  | _ :: _, [], _, _ => by simp [deqs]
  | x :: xs, y :: ys, hx, hy => by
    have h1 := deq_rk (hx x (List.mem_cons_self ..)) (hy y (List.mem_cons_self ..))
    have h2 := deqs_rk (xs := xs) (ys := ys) (fun z h => hx z (List.mem_cons_of_mem _ h)) (fun z h => hy z (List.mem_cons_of_mem _ h))
    simp only [List.map_cons, deqs, Bool.and_eq_true, h1, h2, List.cons.injEq]
theorem deq_rrk {x y : D} (hx : Row x) (hy : Row y) : deq (rrk x) (rrk y) = true ↔ x = y := by
  obtain ⟨xs, rfl, _, h1⟩ := hx.cases
  obtain ⟨ys, rfl, _, h2⟩ := hy.cases
  simp only [rrk, rowOf, deq, deqs_rk h1 h2, D.tup.injEq]
theorem deq_refl_val {x : D} (hx : Val x) : deq x x = true := (deq_val hx hx).mpr rfl
/-! < -/
theorem cmk_rk {x y : D} (hx : Val x) (hy : Val y) : cmk (rk x) (rk y) = true := by
  rcases hx.cases with ⟨i, rfl, _⟩ | ⟨z, rfl, _⟩ <;> rcases hy.cases with ⟨j, rfl, _⟩ | ⟨u, rfl, _⟩ <;> simp [rk, cmk, cmks, deq]
theorem cmks_rk : ∀ {xs ys : List D}, Vals' xs → Vals' ys → cmks (xs.map rk) (ys.map rk) = true
  | [], _, _, _ => by simp [cmks]
  | _ :: _, [], _, _ => by simp [cmks]
  | x :: xs, y :: ys, hx, hy => by
    simp only [List.map_cons, cmks]
    split
    · exact cmks_rk (fun z h => hx z (List.mem_cons_of_mem _ h)) (fun z h => hy z (List.mem_cons_of_mem _ h))
    · exact cmk_rk (hx x (List.mem_cons_self ..)) (hy y (List.mem_cons_self ..))
theorem cmk_rrk {x y : D} (hx : Row x) (hy : Row y) : cmk (rrk x) (rrk y) = true := by
  obtain ⟨xs, rfl, _, h1⟩ := hx.cases
  obtain ⟨ys, rfl, _, h2⟩ := hy.cases
  simp only [rrk, rowOf, cmk]
  exact cmks_rk h1 h2
@[simp] theorem ahead_ii (i j : Int) : ahead (.int i) (.int j) = decide (i < j) := by
  simp only [ahead, rk, dlt, dlts, deq]
  simp
  intro h; omega
@[simp] theorem ahead_is (i : Int) (z : List Nat) : ahead (.int i) (.str z) = true := by simp [ahead, rk, dlt, dlts, deq]
@[simp] theorem ahead_si (i : Int) (z : List Nat) : ahead (.str z) (.int i) = false := by simp [ahead, rk, dlt, dlts, deq]
@[simp] theorem ahead_ss (z u : List Nat) : ahead (.str z) (.str u) = decide (z < u) := by
  simp only [ahead, rk, dlt, dlts, deq]
  simp
  intro h e
  rw [e] at h
  exact List.lt_irrefl _ h
theorem ahead_irr {x : D} (hx : Val x) : ahead x x = false := by
  rcases hx.cases with ⟨i, rfl, _⟩ | ⟨z, rfl, _⟩
  · simp
  · simp [List.lt_irrefl]
theorem ahead_tri {x y : D} (hx : Val x) (hy : Val y) (h1 : ahead x y = false) (h2 : ahead y x = false) : x = y := by
  rcases hx.cases with ⟨i, rfl, _⟩ | ⟨z, rfl, _⟩ <;> rcases hy.cases with ⟨j, rfl, _⟩ | ⟨u, rfl, _⟩ <;> simp at h1 h2 ⊢
  · omega
  · exact List.le_antisymm h2 h1
theorem ahead_trans {x y z : D} (hx : Val x) (hy : Val y) (hz : Val z) (h1 : ahead x y = true) (h2 : ahead y z = true) : ahead x z = true := by
  rcases hx.cases with ⟨i, rfl, _⟩ | ⟨a, rfl, _⟩ <;> rcases hy.cases with ⟨j, rfl, _⟩ | ⟨b, rfl, _⟩ <;> rcases hz.cases with ⟨k, rfl, _⟩ | ⟨c, rfl, _⟩ <;> simp at h1 h2 ⊢
  · omega
  · exact List.lt_trans h1 h2
theorem rowAhead_eq (xs ys : List D) : rowAhead (.tup xs) (.tup ys) = dlts (xs.map rk) (ys.map rk) := by simp only [rowAhead, rrk, rowOf, dlt]
theorem rows_irr : ∀ {xs : List D}, Vals' xs → dlts (xs.map rk) (xs.map rk) = false
  | [], _ => by simp [dlts]
  | x :: xs, h => by
    simp only [List.map_cons, dlts]
    rw [if_pos ((deq_rk (h x (List.mem_cons_self ..)) (h x (List.mem_cons_self ..))).mpr rfl)]
    exact rows_irr fun z hz => h z (List.mem_cons_of_mem _ hz)
theorem rows_tri : ∀ {xs ys : List D}, Vals' xs → Vals' ys → dlts (xs.map rk) (ys.map rk) = false → dlts (ys.map rk) (xs.map rk) = false → xs = ys
  | [], [], _, _, _, _ => rfl
  | [], _ :: _, _, _, h, _ => by simp [dlts] at h
  | _ :: _, [], _, _, _, h => by simp [dlts] at h
  | x :: xs, y :: ys, hx, hy, h1, h2 => by
    have vx := hx x (List.mem_cons_self ..)
    have vy := hy y (List.mem_cons_self ..)
    simp only [List.map_cons, dlts] at h1 h2
    by_cases e : x = y
    · subst e
      rw [if_pos ((deq_rk vx vx).mpr rfl)] at h1 h2
      rw [rows_tri (fun z hz => hx z (List.mem_cons_of_mem _ hz)) (fun z hz => hy z (List.mem_cons_of_mem _ hz)) h1 h2]
    · rw [if_neg fun z => e ((deq_rk vx vy).mp z)] at h1
      rw [if_neg fun z => e ((deq_rk vy vx).mp z).symm] at h2
      exact absurd (ahead_tri vx vy h1 h2) e
theorem rows_trans : ∀ {xs ys zs : List D}, Vals' xs → Vals' ys → Vals' zs → dlts (xs.map rk) (ys.map rk) = true → dlts (ys.map rk) (zs.map rk) = true → dlts (xs.map rk) (zs.map rk) = true
  | [], [], _, _, _, _, h, _ => by simp [dlts] at h
  | _ :: _, [], _, _, _, _, h, _ => by simp [dlts] at h
  | [], _ :: _, [], _, _, _, _, h => by simp [dlts] at h
  | [], _ :: _, _ :: _, _, _, _, _, _ => by simp [dlts]
  | _ :: _, _ :: _, [], _, _, _, _, h => by simp [dlts] at h
  | x :: xs, y :: ys, z :: zs, hx, hy, hz, h1, h2 => by
    have vx := hx x (List.mem_cons_self ..)
    have vy := hy y (List.mem_cons_self ..)
    have vz := hz z (List.mem_cons_self ..)
    have tx : Vals' xs := fun u hu => hx u (List.mem_cons_of_mem _ hu)
    have ty : Vals' ys := fun u hu => hy u (List.mem_cons_of_mem _ hu)
    have tz : Vals' zs := fun u hu => hz u (List.mem_cons_of_mem _ hu)
    simp only [List.map_cons, dlts] at h1 h2 ⊢
    by_cases e1 : x = y
    · subst e1
      rw [if_pos ((deq_rk vx vx).mpr rfl)] at h1
      by_cases e2 : x = z
      · subst e2
        rw [if_pos ((deq_rk vx vx).mpr rfl)] at h2 ⊢
        exact rows_trans tx ty tz h1 h2
      · rw [if_neg fun q => e2 ((deq_rk vx vz).mp q)] at h2 ⊢
        exact h2
    · rw [if_neg fun q => e1 ((deq_rk vx vy).mp q)] at h1
      by_cases e2 : y = z
      · subst e2
        rw [if_neg fun q => e1 ((deq_rk vx vy).mp q)]
        exact h1
      · rw [if_neg fun q => e2 ((deq_rk vy vz).mp q)] at h2
        have h3 : ahead x z = true := ahead_trans vx vy vz h1 h2
        have e3 : x ≠ z := by
          rintro rfl
          rw [ahead_irr vx] at h3; cases h3
        rw [if_neg fun q => e3 ((deq_rk vx vz).mp q)]
        exact h3
end K02

namespace K02
open PySem PySem.Spec PyProof.Rows L2 DL
def topS (i : Nat) : Stmt := PySem.Challenge.pw_onlywith_k02_ranks_of_values_and_rows.main.body.getD i (.Pass ⟨0, 0, 0, 0⟩)
abbrev s_purse : Stmt := topS 4
abbrev s_draw : Stmt := topS 5
theorem sc_purse : FnScope ["_law_script", "_law_cells", "_law_cell"] ["_law_script"] (defScope s_purse) := ⟨rfl, rfl, rfl, by decide +kernel, rfl, by decide +kernel, by decide +kernel⟩
theorem sc_draw : FnScope ["_law_purse_here", "_law_many", "_law_great", "_law_cell", "_law_turn", "_law_mixed"] ["_law_purse_here", "_law_many"] (defScope s_draw) := ⟨rfl, rfl, rfl, by decide +kernel, rfl, by decide +kernel, by decide +kernel⟩
section
variable {P : Program} {w : World} {K : PySem.W.Frag} {mg : Str → Option Value} {base : Heap}
def tDr (a : Addr) : XS := fun N ρ => ∃ n : Int, ρ = st0 6 [.raw (.ref a), .int n] ∧ 0 < n ∧ n ≤ 1000000000 ∧ ∀ k : Int, 0 ≤ k → k < n → N.rt (.int k)
theorem g_draw {f : Addr} {fd : FuncData} {k : Nat} {a g c : Addr} (U : L2.Fun K "_law_draw" "_law_draw" s_draw f fd) (mi : mg "int" = none) (ml : mg "len" = none) : FnG P w K mg base CX0 (k + 1) f fd ["_law_purse_here", "_law_many"] (spD K (Pur a g c) (fDraw a)) := by
  refine dfn_of U sc_draw fDraw_len fun cdv A outer s H E hr hgd => ⟨tDr a, ?_, ?_⟩
  · have nd := sc_draw.nd
    have hu := hr.units
    refine DSs.mk' (pss_cons (ps_set (i := 2) nd rfl (.inl rfl) (pe_ix ix_list (pv 0) pe_int (fun _ _ => rfl)))
      (pss_cons (ps_if (pt_cmpR (op_neD hu) (pv 2) (pe_lst pa_nil) (nomark _))
        (pss_cons (ps_set (i := 3) nd rfl (.inl rfl) (pe_bm0 PySem.F.plainAttrs_list PySem.F.slot_list_pop PySem.F.type_list_pop mt_pop (pv 2)))
        (pss_cons (ps_if (pt_cmpR op_ge (pv 3) (pv 1) (nomark _)) (pss_one (ps_expr (pe_bm PySem.F.plainAttrs_list PySem.F.slot_list_append PySem.F.type_list_append mt_append (pv 2) (pa_cons (pe_op op_fdiv (pv 3) (pv 1)) pa_nil)))) pss_nil)
        (pss_one (ps_ret (pe_op op_mod (pe_callTy call_int1 (by rfl) mi (by decide +kernel) (pa_cons (pv 3) pa_nil)) (pv 1)))))) pss_nil)
      (pss_cons (ps_asg (pe_op op_add (pe_ix ix_list (pv 0) pe_int (fun _ _ => rfl)) pe_int) (pg_sub (pv 0) pe_int set_list))
      (pss_cons (ps_set (i := 4) nd rfl (.inl rfl) (pe_ix ix_list (pv 0) pe_int (fun _ _ => rfl)))
      (pss_cons (ps_set (i := 3) nd rfl (.inl rfl) (pe_ix ix_list (pe_ix ix_list (pv 0) pe_int (fun _ _ => rfl)) (pe_op op_mod (pe_callTy call_int1 (by rfl) mi (by decide +kernel) (pa_cons (pv 4) pa_nil)) (pe_callB call_len_seq (by rfl) ml PySem.boot_len (pa_cons (pe_ix ix_list (pv 0) pe_int (fun _ _ => rfl)) pa_nil))) (fun _ _ => rfl)))
      (pss_cons (ps_set (i := 5) nd rfl (.inl rfl) (pe_callTy call_int1 (by rfl) mi (by decide +kernel) (pa_cons (pe_op op_add (pe_op op_add (pe_op op_mul (pv 3) pe_int) (pe_op op_mul (pe_ix ix_list (pv 0) pe_int (fun _ _ => rfl)) pe_int)) (pe_op op_mul (pv 4) pe_int)) pa_nil)))
      (pss_cons (ps_set (i := 5) nd rfl (.inl rfl) (pe_op op_mod (pe_callTy call_int1 (by rfl) mi (by decide +kernel) (pa_cons (pv 5) pa_nil)) pe_int))
      (pss_cons (ps_set (i := 5) nd rfl (.inl rfl) (pe_op op_mod (pe_callTy call_int1 (by rfl) mi (by decide +kernel) (pa_cons (pe_op op_add (pe_op op_add (pe_op op_mul (pv 5) (pv 5)) (pe_op op_mul (pv 4) pe_int)) pe_int) pa_nil)) pe_int))
      (pss_one (ps_ret (pe_op op_mod (pe_op op_fdiv (pe_op op_mod (pe_callTy call_int1 (by rfl) mi (by decide +kernel) (pa_cons (pe_op op_add (pe_op op_add (pe_op op_mul (pv 5) (pv 5)) (pe_op op_mul pe_int (pv 5))) (pv 4)) pa_nil)) pe_int) pe_int) (pv 1))))))))))))
      fun σ H' H0 ρ N i0 gg sl hT => ?_
    obtain ⟨n, rfl, hn0, hn1, hk⟩ := hT
    obtain ⟨v0, e0, r0⟩ := sl.val (i := 0) rfl
    obtain ⟨v1, e1, r1⟩ := sl.val (i := 1) rfl
    cases r0
    cases r1
    have hl := sl.len
    obtain ⟨s0, s1, s2, s3, s4, s5, rfl⟩ : ∃ s0 s1 s2 s3 s4 s5, σ = [s0, s1, s2, s3, s4, s5] := by
      match σ, hl with
      | [s0, s1, s2, s3, s4, s5], _ => exact ⟨s0, s1, s2, s3, s4, s5, rfl⟩
    have e0' : s0 = some (V.ref a) := by simpa using e0
    have e1' : s1 = some (V.int n) := by simpa using e1
    subst e0' e1'
    clear sl hl e0 e1
    obtain ⟨⟨n1, n2, n3⟩, xs, ys, cs, ct, ha, hg, hc, hx, hxl, hy, ht⟩ := gg.inv i0
    have fin : ∀ (H2 : Hp) (k : Int), 0 ≤ k → k < n → (∀ b o, H' b = some o → b ≠ a → b ≠ g → H2 b = some o) → (Pur a g c).inv H2 → LQ (cxOf CX0 P w K mg base ["_law_purse_here", "_law_many", "_law_great", "_law_cell", "_law_turn", "_law_mixed"] "_law_draw" (defScope s_draw) f cdv A outer s H E).nox.K (Pur a g c) H0 N.rt (V.int k) H2 := fun H2 k h1 h2 h3 h4 =>
      ⟨⟨fun b o e nf => h3 b o (gg.keep b o e nf) (fun z => nf (.inl z)) (fun z => nf (.inr (.inl z))), fun _ => h4⟩, _, .int k, hk k h1 h2⟩
    refine ⟨.ref a, rfl, a, _, 0, .ref g, rfl, rfl, SqL.of ha, atI_nat (j := 0) rfl, ?_⟩
    refine ⟨.ref g, rfl, Nat.zero_le _, fun p np => ⟨.list (xs.map .int), .list [], .lst (SqL.of (by rw [upd_ne (ne_of_none hg np)]; exact hg)) (dpAll_ints xs), .lst (SqL.of upd_same) .nil, shaped_ints xs, shaped_ints [], _, rfl, ?_⟩⟩
    have nap : a ≠ p := ne_of_none ha np
    have ngp : g ≠ p := ne_of_none hg np
    have ncp : c ≠ p := ne_of_none hc np
    rw [eqv_nil]
    refine ite2 (fun hxs => ?_) (fun hxs => ?_)
    · obtain ⟨xi, xz, exs⟩ : ∃ xi xz, xs = xi ++ [xz] := ⟨xs.dropLast, xs.getLast (by intro z; rw [z] at hxs; cases hxs), (List.dropLast_concat_getLast _).symm⟩
      subst exs
      have hz0 : 0 ≤ xz := hx xz (by simp)
      have hg1 : (upd H' p (.lst [])) g = some (.lst ((xi ++ [xz]).map V.int)) := by rw [upd_ne ngp]; exact hg
      refine ⟨.ref g, rfl, .inl ⟨rfl, _, SqL.of hg1⟩, g, _, .int xz, rfl, rfl, hg1, by simp, ?_⟩
      have edl : ((xi ++ [xz]).map V.int).dropLast = xi.map V.int := by simp
      rw [edl]
      have hxi : ∀ x ∈ xi, 0 ≤ x := fun x h => hx x (by simp [h])
      have hxl' : xi.length < 1000 := by simp at hxl; omega
      have m1 : 0 ≤ xz % n := Int.emod_nonneg _ (by omega)
      have m2 : xz % n < n := Int.emod_lt_of_pos _ hn0
      refine ⟨.int xz, rfl, .int n, rfl, xz, n, rfl, rfl, _, rfl, ite2 (fun e => ?_) (fun e => ?_)⟩
      · refine ⟨.ref g, rfl, .inl ⟨rfl, _, SqL.of upd_same⟩, .int xz, rfl, .int n, rfl, xz, n, rfl, rfl, ⟨hn0, by omega⟩, g, _, _, rfl, rfl, upd_same, by rw [List.length_map]; exact small1000 (by omega), ?_⟩
        refine ⟨.int xz, rfl, .inl ⟨xz, rfl, .int n, rfl, xz, n, rfl, rfl, hn0, fin _ _ m1 m2 (fun b o eb n1 n2 => ?_) ?_⟩⟩
        · rw [upd_ne n2, upd_ne n2, upd_ne (ne_of_none eb np)]; exact eb
        · refine ⟨⟨n1, n2, n3⟩, xi ++ [xz / n], ys, cs, ct, ?_, ?_, ?_, ?_, ?_, hy, ht⟩
          · rw [upd_ne n1, upd_ne n1, upd_ne nap]; exact ha
          · rw [upd_same]; simp
          · rw [upd_ne n3.symm, upd_ne n3.symm, upd_ne ncp]; exact hc
          · intro x h
            rcases List.mem_append.mp h with h | h
            · exact hxi x h
            · rw [List.mem_singleton.mp h]; exact Int.ediv_nonneg hz0 (by omega)
          · simp; omega
      · refine ⟨.int xz, rfl, .inl ⟨xz, rfl, .int n, rfl, xz, n, rfl, rfl, hn0, fin _ _ m1 m2 (fun b o eb n1 n2 => ?_) ?_⟩⟩
        · rw [upd_ne n2, upd_ne (ne_of_none eb np)]; exact eb
        · refine ⟨⟨n1, n2, n3⟩, xi, ys, cs, ct, ?_, ?_, ?_, hxi, by omega, hy, ht⟩
          · rw [upd_ne n1, upd_ne nap]; exact ha
          · exact upd_same
          · rw [upd_ne n3.symm, upd_ne ncp]; exact hc
    · have ha1 : (upd H' p (.lst [])) a = some (.lst [.ref g, .ref c, .int cs, .int ct]) := by rw [upd_ne nap]; exact ha
      refine ⟨.ref a, rfl, a, _, 3, .int ct, rfl, rfl, SqL.of ha1, atI_nat (j := 3) rfl, ct, 1, rfl, rfl, .ref a, rfl, a, _, 3, 3, rfl, rfl, ha1, rfl, ?_⟩
      let H3 : Hp := upd (upd H' p (.lst [])) a (.lst [.ref g, .ref c, .int cs, .int (ct + 1)])
      have ha3 : H3 a = some (.lst [.ref g, .ref c, .int cs, .int (ct + 1)]) := upd_same
      have hc3 : H3 c = some (.lst (ys.map V.int)) := by show upd _ _ _ c = _; rw [upd_ne n2.symm, upd_ne ncp]; exact hc
      have hg3 : H3 g = some (.lst (xs.map V.int)) := by show upd _ _ _ g = _; rw [upd_ne n1.symm, upd_ne ngp]; exact hg
      refine ⟨.ref a, rfl, a, _, 3, .int (ct + 1), rfl, rfl, SqL.of ha3, atI_nat (j := 3) rfl, ?_⟩
      have hyl : 0 < ys.length := List.length_pos_iff.mpr hy
      have q1 : 0 ≤ (ct + 1) % (ys.length : Int) := Int.emod_nonneg _ (by omega)
      have q2 : (ct + 1) % (ys.length : Int) < ys.length := Int.emod_lt_of_pos _ (by omega)
      obtain ⟨j, ej⟩ : ∃ j : Nat, (ct + 1) % (ys.length : Int) = j := ⟨_, (Int.toNat_of_nonneg q1).symm⟩
      have hj : j < ys.length := by omega
      refine ⟨.ref a, rfl, a, _, 1, .ref c, rfl, rfl, SqL.of ha3, atI_nat (j := 1) rfl, .int (ct + 1), rfl, .inl ⟨ct + 1, rfl, .ref a, rfl, a, _, 1, .ref c, rfl, rfl, SqL.of ha3, atI_nat (j := 1) rfl, c, _, rfl, .inl (SqL.of hc3), ct + 1, (ys.length : Int), rfl, by rw [List.length_map], by omega, c, _, _, .int ys[j], rfl, rfl, SqL.of hc3, ?_, ?_⟩⟩
      · rw [ej]
        exact atI_nat (by rw [List.getElem?_map, List.getElem?_eq_getElem hj]; rfl)
      have big : ∀ k : Int, CMul k 1181783497276652981 ∧ CMul k 7046029254386353131 ∧ CMul k 3037000507 ∧ CMul k 2862933555777941757 := fun k => ⟨.inr (by decide), .inr (by decide), .inr (by decide), .inr (by decide)⟩
      refine ⟨.int ys[j], rfl, _, _, rfl, rfl, (big _).1, .ref a, rfl, a, _, 2, .int cs, rfl, rfl, SqL.of ha3, atI_nat (j := 2) rfl, _, _, rfl, rfl, (big _).2.1, _, _, rfl, rfl, .int (ct + 1), rfl, _, _, rfl, rfl, (big _).2.2.1, _, _, rfl, rfl, .inl ⟨_, rfl, ?_⟩⟩
      generalize hm0 : (ys[j] * 1181783497276652981 + cs * 7046029254386353131 + (ct + 1) * 3037000507) = m0
      have lt64 : ∀ x y : Int, 0 < y → y < 2 ^ 64 → CMul (x % y) (x % y) := fun x y h1 h2 => .inl ⟨by have := Int.emod_nonneg x (b := y) (by omega); omega, by have := Int.emod_lt_of_pos x h1; omega⟩
      have p1 : (0 : Int) < 2305843009213693951 := by decide
      have p2 : (0 : Int) < 2305843009213693921 := by decide
      refine ⟨.int m0, rfl, .inl ⟨_, rfl, _, _, rfl, rfl, p1, ?_⟩⟩
      refine ⟨.int (m0 % 2305843009213693951), rfl, .int (m0 % 2305843009213693951), rfl, _, _, rfl, rfl, lt64 _ _ (by decide) (by decide), .int (ct + 1), rfl, _, _, rfl, rfl, (big _).2.2.2, _, _, rfl, rfl, _, _, rfl, rfl, .inl ⟨_, rfl, _, _, rfl, rfl, p2, ?_⟩⟩
      generalize hm1 : (m0 % 2305843009213693951 * (m0 % 2305843009213693951) + (ct + 1) * 2862933555777941757 + 1442695041) = m1
      have lt3 : CMul 3 (m1 % 2305843009213693921) := .inl ⟨by decide, by decide⟩
      refine ⟨.int (m1 % 2305843009213693921), rfl, .int (m1 % 2305843009213693921), rfl, _, _, rfl, rfl, lt64 _ _ (by decide) (by decide), .int (m1 % 2305843009213693921), rfl, _, _, rfl, rfl, lt3, _, _, rfl, rfl, .int (ct + 1), rfl, _, _, rfl, rfl, .inl ⟨_, rfl, _, _, rfl, rfl, p1, _, _, rfl, rfl, ⟨by decide, by decide⟩, .int n, rfl, _, _, rfl, rfl, hn0, ?_⟩⟩
      refine fin _ _ (Int.emod_nonneg _ (by omega)) (Int.emod_lt_of_pos _ hn0) (fun b o eb n1 n2 => ?_) ⟨⟨n1, n2, n3⟩, xs, ys, cs, ct + 1, ha3, hg3, hc3, hx, hxl, hy, by omega⟩
      show upd _ _ _ b = _
      rw [upd_ne n1, upd_ne (ne_of_none eb np)]; exact eb
  · rintro ds Q ⟨n, rfl, h⟩
    exact ⟨n, rfl, h⟩
theorem g_purse {f : Addr} {fd : FuncData} {k : Nat} (U : L2.Fun K "_law_purse" "_law_purse" s_purse f fd) (ml : mg "len" = none) (ms : mg "sum" = none) : FnG P w K mg base CX0 (k + 1) f fd ["_law_script"] (spPur K) := by
  obtain ⟨oc, od, kV, doc, pm, an, cdv, ct, osl, rfl, lk, hcd⟩ := U.ex
  refine fng_of lk hcd sc_purse (fun vs H Q E ⟨ns, r, _⟩ => r.length) fun A outer s H vs Q E hr hgd ⟨ns, r, hl, q⟩ => ?_
  have nd := sc_purse.nd
  have hu := hr.units
  refine ⟨_, (pss_cons (DS.ps (R := Res.nil) ((ds_setLcO (i := 1) (own := [("_law_cell", 2)]) (B := bNm 2) (is := [2]) (by rfl) nd rfl rfl (sw_true rfl rfl rfl (by decide +kernel)) (di_list (df_cut (dv 0).db do_none (do_some de_int)).de) (blkOk_by (by rfl)) (fun _ _ _ _ _ => dg_name (i := 2) nd rfl (.inl rfl)) (fun _ _ _ _ _ => dts_nil)
        (fun _ _ _ _ _ => de_if (dt_cmp (op_Ge hu) (dv 2).db de_int.db (nomark _)) (de_bin op_Mul de_int.db (dv 2).db) (de_bin op_Sub (de_bin op_Mul (de_neg de_int).db (dv 2).db).db de_int.db))).setF (by exact (by decide : 1 < 3))))
      (pss_one (ps_ret (pe_lst (pa_cons (DF.pe (R := Res.nil) (df_lc (own := [("_law_cell", 2)]) (B := bNm 2) (is := [2]) (by rfl) nd (di_list (dv 1)) (blkOk_by (by rfl)) (fun _ _ _ _ _ => dg_name (i := 2) nd rfl (.inl rfl)) (fun _ _ _ _ _ => dts_one (dt_cmp (op_Ge hu) (dv 2).db (de_bin op_Pow de_int.db de_int.db).db (nomark _))) (fun _ _ _ _ _ => dv 2)))
        (pa_cons (DF.pe (R := Res.nil) (df_bin op_Cat (dv 1).db (df_lst (da_cons (de_bin op_Add (de_b call_Len (by rfl) ml PySem.boot_len (dab_cons (dv 1).db dab_nil)).db de_int.db) da_nil)).de.db))
        (pa_cons (DE.pe (R := Res.nil) (de_b (call_Sum (by rfl)) (by rfl) ms (by decide +kernel) (dab_cons (dv 1).db dab_nil))) (pa_cons pe_int pa_nil)))))))).nox, ?_⟩
  let zig : Int → Int := fun c => if 0 ≤ c then 2 * c else -2 * c - 1
  let cells : List Int := (ns.take 63).map zig
  have czs : ∀ x ∈ cells, 0 ≤ x := by
    intro x hx
    obtain ⟨y, _, rfl⟩ := List.mem_map.mp hx
    show 0 ≤ (if 0 ≤ y then 2 * y else -2 * y - 1)
    split <;> omega
  have csl : cells.length ≤ 63 := by show ((ns.take 63).map zig).length ≤ 63; rw [List.length_map, List.length_take]; omega
  refine ⟨H, st0 3 [.lst (ns.map .int)], { nx := fun ρ' => ρ' = [.val (.lst (ns.map .int)), .val (.lst (cells.map .int)), .no], rt := fun _ => False }, trivial, Go.refl H, sl_start r, ?_, fun σ' H1 ⟨ρ', g1, x1, sl1, e1⟩ => ?_, fun _ _ ⟨_, _, _, z⟩ => z.elim, fun _ _ ⟨_, _, _, _, z⟩ => z.elim, fun _ _ ⟨_, _, _, _, z⟩ => z.elim⟩
  · refine ⟨_, rfl, 63, rfl, ns.map .int, rfl, _, rfl, ?_⟩
    have e : cutL (ns.map D.int) none (some 63) = (ns.take 63).map .int := by rw [List.map_take]; exact cutL_take (ns.map D.int) 63
    rw [e]
    refine lcGo_map (fun d => match d with | .int c => .int (zig c) | d => d) (fun d hd P hP => ?_) ?_
    · obtain ⟨c, _, rfl⟩ := List.mem_map.mp hd
      have hP : P (.int (zig c)) := hP
      refine ⟨_, rfl, rfl, rfl, rfl, (by intro z; cases z), _, rfl, ?_⟩
      show if (!dlt (.int c) (.int 0)) = true then _ else _
      have e1 : (!dlt (.int c) (.int 0)) = decide (0 ≤ c) := by
        show (!decide (c < 0)) = _
        by_cases h : c < 0
        · rw [decide_eq_true h, decide_eq_false (by omega)]; rfl
        · rw [decide_eq_false h, decide_eq_true (by omega)]; rfl
      rw [e1]
      refine ite2 (fun h => ?_) fun h => ?_
      · have h := of_decide_eq_true h
        refine ⟨_, rfl, .inl ⟨by decide, by decide⟩, ?_⟩
        have : zig c = 2 * c := if_pos h
        rw [this] at hP; exact hP
      · have h : ¬ 0 ≤ c := fun z => h (decide_eq_true z)
        refine ⟨_, rfl, .inl ⟨by decide, by decide⟩, ?_⟩
        have : zig c = -2 * c - 1 := if_neg h
        rw [this] at hP; exact hP
    · show _ = _
      show [Sv.val (.lst (ns.map .int)), .val (.lst _), .no] = _
      rw [List.map_map, List.map_map]
      rfl
  · subst e1
    have i1 : Res.nil.inv H1 := trivial
    refine ⟨H, _, fun ds => ∃ xs : List Int, ds = xs.map .int ∧ xs.length ≤ 63 ∧ ∀ x ∈ xs, 0 ≤ x, trivial, trivial, sl1, ?_, fun v H2 ⟨g2, vg, us, ds, ev, ng, hg, rg, xs, exs, hxl, hxs⟩ => ?_⟩
    · refine ⟨_, rfl, _, rfl, ?_⟩
      refine lcGo_fm (fun d => match d with | .int c => if 10 ^ 18 ≤ c then some (.int c) else none | _ => none) (fun d hd P Z h1 h2 => ?_) ?_
      · obtain ⟨c, _, rfl⟩ := List.mem_map.mp hd
        refine ⟨_, rfl, ⟨by decide, by decide, by decide⟩, rfl, rfl, rfl, (by intro z; cases z), _, rfl, ?_⟩
        have e1 : (!dlt (.int c) (.int ((10 : Int) ^ (18 : Int).toNat))) = decide (10 ^ 18 ≤ c) := by
          show (!decide (c < 10 ^ 18)) = _
          by_cases h : c < 10 ^ 18
          · rw [decide_eq_true h, decide_eq_false (by omega)]; rfl
          · rw [decide_eq_false h, decide_eq_true (by omega)]; rfl
        show if (!dlt (.int c) (.int ((10 : Int) ^ (18 : Int).toNat))) = true then _ else _
        rw [e1]
        refine ite2 (fun h => ?_) fun h => ?_
        · exact ⟨_, rfl, h1 _ (if_pos (of_decide_eq_true h))⟩
        · exact h2 (if_neg fun z => h (decide_eq_true z))
      · refine ⟨cells.filter fun c => decide (10 ^ 18 ≤ c), ?_, Nat.le_trans (List.length_filter_le _ _) csl, fun x hx => czs x (List.mem_filter.mp hx).1⟩
        rw [List.filterMap_map, ← List.filterMap_eq_map, ← List.filterMap_eq_filter, List.filterMap_filterMap]
        refine congrArg (fun f => List.filterMap f cells) (funext fun c => ?_)
        show (if 10 ^ 18 ≤ c then some (D.int c) else none) = _
        by_cases h : 10 ^ 18 ≤ c
        · rw [if_pos h]; simp only [Option.guard, decide_eq_true h]; rfl
        · rw [if_neg h]; simp only [Option.guard, decide_eq_false h]; rfl
    · subst ev exs
      have i2 : Res.nil.inv H2 := trivial
      have sl2 := sl1.go (R := Res.nil) trivial i1 g2
      refine ⟨H, _, fun ds => ∃ ys : List Int, ds = ys.map .int ∧ ys ≠ [], trivial, trivial, sl2, ?_, fun v3 H3 ⟨g3, vc, us3, ds3, ev3, nc, hc, rc, ys, eys, hys⟩ => ?_⟩
      · refine ⟨_, rfl, ?_⟩
        refine ⟨_, rfl, ?_⟩
        show _ ∧ sz _ ∧ _
        refine ⟨Nat.le_of_ble_eq_true rfl, ?_, cells ++ [((cells.map D.int).length : Int) + 8191], by simp, by simp⟩
        show (cells.map D.int).length + 1 ≤ 10000000
        rw [List.length_map]; omega
      · subst ev3 eys
        have sl3 := sl2.go (R := Res.nil) trivial i2 g3
        refine ⟨H, _, fun d => ∃ s : Int, d = .int s, trivial, trivial, sl3, ?_, fun v4 H4 ⟨g4, d4, r4, s, e4⟩ => ?_⟩
        · exact ⟨_, rfl, cells, allInt_map cells, _, rfl⟩
        · subst e4
          cases r4
          have x24 := g4.ext (R := Res.nil) trivial
          have kp : ∀ {Ha Hb : Hp} {p : Addr} {o : HO}, Go Res.nil Ha Hb → Ha p = some o → Hb p = some o := fun g e => g.keep _ _ e fun z => z
          have eg := rep_ints rg
          have ec := rep_ints rc
          subst eg ec
          have hg4 := kp g4 (kp g3 hg)
          have hc4 := kp g4 hc
          refine ⟨by show 4 ≤ sizeLine; decide, fun p np => q p vg vc _ (g1.trans (g2.trans (g3.trans (g4.trans (Go.new np trivial))))) ?_⟩
          have n1 : vg ≠ p := ne_of_none hg4 np
          have n2 : vc ≠ p := ne_of_none hc4 np
          have n3 : vg ≠ vc := ne_of_none hg nc
          refine ⟨⟨n1.symm, n2.symm, n3⟩, xs, ys, s, 0, upd_same, ?_, ?_, hxs, by omega, hys, by decide⟩
          · rw [upd_ne n1]; exact hg4
          · rw [upd_ne n2]; exact hc4
end
end K02

namespace K02
open PySem PySem.Spec PyProof.Rows L2 DL
theorem l_value_rank : ∀ ds Q, f_value_rank ds Q → ds.length = 1 := by rintro _ Q ⟨d, rfl, _⟩; rfl
theorem l_row_rank : ∀ ds Q, f_row_rank ds Q → ds.length = 1 := by rintro _ Q ⟨d, rfl, _⟩; rfl
theorem l_pick {a : Addr} : ∀ ds Q, f_pick a ds Q → ds.length = 2 := by rintro _ Q ⟨d, rfl, _⟩; rfl
theorem l_word {a : Addr} : ∀ ds Q, f_word a ds Q → ds.length = 2 := by rintro _ Q ⟨d, rfl, _⟩; rfl
theorem l_stock {a : Addr} : ∀ ds Q, f_stock a ds Q → ds.length = 1 := by rintro _ Q ⟨rfl, _⟩; rfl
theorem l_lines {a : Addr} : ∀ ds Q, f_lines a ds Q → ds.length = 2 := by rintro _ Q ⟨d, rfl, _⟩; rfl
theorem l_is_ahead : ∀ ds Q, f_is_ahead ds Q → ds.length = 2 := by rintro _ Q ⟨d, e, rfl, _⟩; rfl
theorem l_is_row_ahead : ∀ ds Q, f_is_row_ahead ds Q → ds.length = 2 := by rintro _ Q ⟨d, e, rfl, _⟩; rfl
theorem l_in_order : ∀ ds Q, f_in_order ds Q → ds.length = 1 := by rintro _ Q ⟨d, rfl, _⟩; rfl
theorem l_pair : ∀ ds Q, f_pair ds Q → ds.length = 1 := by rintro _ Q ⟨d, rfl, _⟩; rfl
theorem l_are_values_told : ∀ ds Q, f_are_values_told ds Q → ds.length = 1 := by rintro _ Q ⟨d, rfl, _⟩; rfl
theorem l_are_rows_told : ∀ ds Q, f_are_rows_told ds Q → ds.length = 1 := by rintro _ Q ⟨d, rfl, _⟩; rfl
theorem m_value_rank : ∀ ds Q, f_value_rank ds Q → t_value_rank { nx := fun _ => Q .non, rt := Q } (st0 1 ds) := by
  rintro _ Q ⟨d, rfl, hv, q⟩
  rcases hv.cases with ⟨i, rfl, _⟩ | ⟨z, rfl, _⟩
  · refine ⟨_, rfl, rfl, by decide, _, rfl, ?_⟩
    rw [show isA "str" (.int i) = false from by simp [isA]]
    exact iteF ⟨_, rfl, Nat.le_of_ble_eq_true rfl, q⟩
  · refine ⟨_, rfl, rfl, by decide, _, rfl, ?_⟩
    rw [show isA "str" (.str z) = true from by simp [isA]]
    exact iteT ⟨_, rfl, Nat.le_of_ble_eq_true rfl, q⟩
theorem m_pair : ∀ ds Q, f_pair ds Q → t_pair { nx := fun _ => Q .non, rt := Q } (st0 1 ds) := by
  rintro _ Q ⟨d, rfl, hv, q⟩
  rcases hv.cases with ⟨i, rfl, _⟩ | ⟨z, rfl, _⟩
  · refine ⟨_, rfl, rfl, by decide, _, rfl, ?_⟩
    rw [show isA "int" (.int i) = true from by simp [isA]]
    exact iteT ⟨_, rfl, Nat.le_of_ble_eq_true rfl, q⟩
  · refine ⟨_, rfl, rfl, by decide, _, rfl, ?_⟩
    rw [show isA "int" (.str z) = false from by simp [isA]]
    exact iteF ⟨_, rfl, Nat.le_of_ble_eq_true rfl, q⟩
theorem m_row_rank : ∀ ds Q, f_row_rank ds Q → t_row_rank { nx := fun _ => Q .non, rt := Q } (st0 2 ds) := by
  rintro _ Q ⟨d, rfl, hv, q⟩
  obtain ⟨xs, rfl, h1, h2⟩ := hv.cases
  exact ⟨_, rfl, _, rfl, lcGo_map rk (fun d hd P hP => ⟨_, rfl, _, rfl, h2 d hd, hP⟩) q⟩
theorem m_pick {a : Addr} : ∀ ds Q, f_pick a ds Q → t_pick a { nx := fun _ => Q .non, rt := Q } (st0 2 ds) := by
  rintro _ Q ⟨d, rfl, h⟩
  rcases h with ⟨z, rfl, h1, h2, q⟩ | ⟨xs, rfl, h1, h2, q⟩
  · have hz : sz z.length := by unfold sz; omega
    have hp := List.length_pos_iff.mpr h1
    refine ⟨_, rfl, _, rfl, _, rfl, hz, _, rfl, by omega, by omega, fun k k1 k2 => ?_⟩
    obtain ⟨j, rfl⟩ := Int.eq_ofNat_of_zero_le k1
    have hj : j < z.length := by omega
    exact ⟨hz, _, atI_nat (List.getElem?_eq_getElem hj), q _ (List.getElem_mem hj)⟩
  · have hp := List.length_pos_iff.mpr h1
    refine ⟨_, rfl, _, rfl, _, rfl, _, rfl, by omega, by omega, fun k k1 k2 => ?_⟩
    obtain ⟨j, rfl⟩ := Int.eq_ofNat_of_zero_le k1
    have hj : j < xs.length := by omega
    exact ⟨_, atI_nat (List.getElem?_eq_getElem hj), q _ (List.getElem_mem hj)⟩
theorem upTo_len (lo : Int) (n : Nat) : (DL.upTo lo n).length = n := by simp [DL.upTo]
/-- texts of one small letter each -/
theorem letters : ∀ {ys : List D}, (∀ y ∈ ys, ∃ c : Nat, y = .str [c] ∧ 97 ≤ c ∧ c ≤ 122) → ∃ z : List Nat, z.length = ys.length ∧ low z ∧ allStr ys = some (z.map fun c => [c])
  | [], _ => ⟨[], rfl, (by intro c h; cases h), rfl⟩
  | y :: ys, h => by
    obtain ⟨z, h1, h2, h3⟩ := letters (ys := ys) fun x hx => h x (List.mem_cons_of_mem _ hx)
    obtain ⟨c, rfl, hc⟩ := h y (List.mem_cons_self ..)
    refine ⟨c :: z, by simp [h1], fun x hx => ?_, by simp [allStr, h3]⟩
    rcases List.mem_cons.mp hx with rfl | hx
    · exact hc
    · exact h2 x hx
theorem jn_nil (z : List Nat) : jn [] (z.map fun c => [c]) = z := by
  have k : ∀ z : List Nat, ((z.map fun c => [c]).map (([] : List Nat) ++ ·)).flatten = z := by
    intro z
    induction z with
    | nil => rfl
    | cons c z ih => simpa using ih
  cases z with
  | nil => rfl
  | cons c z =>
    show [c] ++ ((z.map fun c => [c]).map (([] : List Nat) ++ ·)).flatten = _
    rw [k]; rfl
theorem m_word {a : Addr} : ∀ ds Q, f_word a ds Q → t_word a { nx := fun _ => Q .non, rt := Q } (st0 3 ds) := by
  rintro _ Q ⟨n, rfl, h1, h2, q⟩
  refine ⟨_, rfl, _, rfl, n, rfl, by omega, by omega, ?_⟩
  refine lcGo_all (fun y => ∃ c : Nat, y = .str [c] ∧ 97 ≤ c ∧ c ≤ 122) (fun d hd P hP => ?_) fun ys e hy => ?_
  · refine ⟨_, rfl, _, rfl, .inl ⟨_, rfl, by simp, by simp, fun c hc => hP _ ⟨c, rfl, ?_⟩⟩⟩
    simp only [List.mem_cons, List.not_mem_nil, or_false] at hc
    omega
  · obtain ⟨z, e1, e2, e3⟩ := letters hy
    rw [upTo_len] at e
    have hs : ((z.map fun c => [c]).map List.length).sum = z.length := by
      clear e1 e2 e3
      induction z with
      | nil => rfl
      | cons c z ih => simp only [List.map_cons, List.sum_cons, ih, List.length_cons, List.length_nil]; omega
    refine ⟨_, ⟨_, .inl rfl, e3⟩, ?_, ?_⟩
    · rw [hs, List.length_map, List.length_nil]; omega
    · rw [jn_nil]
      exact q z (by omega) e2
end K02

namespace K02
open PySem PySem.Spec PyProof.Rows L2 DL
theorem low_app {z u : List Nat} (h1 : low z) (h2 : low u) : low (z ++ u) := by
  intro c hc
  rcases List.mem_append.mp hc with h | h
  · exact h1 c h
  · exact h2 c h
theorem low_cut {z : List Nat} (h : low z) (lo hi : Option Int) : low (cutL z lo hi) := fun c hc => h c (List.mem_of_mem_drop (List.mem_of_mem_take hc))
theorem len_cut {α : Type} (z : List α) (lo hi : Option Int) : (cutL z lo hi).length ≤ z.length := by
  unfold cutL
  rw [List.length_take, List.length_drop]
  omega
theorem low_rep {z : List Nat} (h : low z) (n : Int) : low (rep n z) := by
  intro c hc
  unfold rep at hc
  obtain ⟨l, hl, hc⟩ := List.mem_flatten.mp hc
  rw [List.eq_of_mem_replicate hl] at hc
  exact h c hc
theorem len_rep (z : List Nat) (n : Int) : (rep n z).length = n.toNat * z.length := by
  unfold rep
  simp
theorem m_stock {a : Addr} : ∀ ds Q, f_stock a ds Q → t_stock a { nx := fun _ => Q .non, rt := Q } (st0 6 ds) := by
  rintro _ Q ⟨rfl, q⟩
  refine ⟨_, rfl, ⟨by decide, by decide, by decide⟩, _, rfl, by decide, by decide, fun m m1 m2 => ?_⟩
  refine ⟨_, rfl, _, rfl, 11, rfl, by decide, by decide, fun k k1 k2 => ⟨1 + k, rfl, by omega, by omega, fun z z1 z2 => ?_⟩⟩
  refine ⟨_, rfl, 1, rfl, by decide, by decide, fun u u1 u2 => ⟨_, _, _, rfl, ?_⟩⟩
  have m3 : m < 1000000000 := m2
  have hz : z.length ≤ 12 := by omega
  have hu : u.length = 1 := by omega
  refine ⟨_, rfl, _, rfl, _, rfl, _, rfl, ⟨by decide, by decide, by decide⟩, ⟨by decide, by decide, by decide⟩, _, rfl, 12, rfl, by decide, by decide, fun p p1 p2 => ⟨_, rfl, _, rfl, _, rfl, ?_, ?_⟩⟩
  · unfold sz; omega
  refine ⟨Nat.le_of_ble_eq_true rfl, ?_⟩
  refine ⟨_, rfl, _, rfl, _, rfl, by decide, by decide, ?_, ?_⟩
  · unfold sz; rw [hu]; decide
  refine ⟨_, rfl, _, rfl, ?_, _, rfl, ?_, _, rfl, ?_, _, rfl, _, rfl, ?_, ?_⟩
  · unfold sz; omega
  · unfold sz; have := len_cut z none (some (-1)); omega
  · unfold sz; show z.length + 1 ≤ _; omega
  · unfold sz; omega
  refine ⟨Nat.le_of_ble_eq_true rfl, ?_⟩
  refine ⟨by unfold sz; exact Nat.le_of_ble_eq_true rfl, ?_⟩
  refine ⟨7, rfl, by decide, by decide, ?_⟩
  refine lcGo_all Val (fun d hd P hP => ?_) fun ys e hy => q ys (by rw [e, upTo_len]; rfl) hy
  refine ⟨_, rfl, _, rfl, _, rfl, .inr ⟨_, rfl, by simp, by simp, fun x hx => hP x ?_⟩⟩
  have lz := len_cut z none (some (-1))
  have lz2 := len_cut z none (some 1)
  have lc := low_cut z2 none (some (-1))
  have lc2 := low_cut z2 none (some 1)
  have la : low [97] := by intro c hc; rw [List.mem_singleton.mp hc]; decide
  simp only [List.mem_append, List.mem_cons, List.not_mem_nil, or_false] at hx
  rcases hx with (rfl | rfl | rfl | rfl | rfl | rfl | rfl | rfl | rfl | rfl | rfl) | (rfl | rfl | rfl | rfl | rfl)
  · exact ⟨by omega, by omega⟩
  · exact ⟨by omega, by omega⟩
  · exact ⟨by omega, by omega⟩
  · exact ⟨by omega, by omega⟩
  · exact ⟨by decide, by decide⟩
  · exact ⟨by decide, by decide⟩
  · exact ⟨by decide, by decide⟩
  · exact ⟨by decide, by decide⟩
  · exact ⟨by omega, by omega⟩
  · exact ⟨by omega, z2⟩
  · exact ⟨by rw [List.length_append]; omega, low_app z2 u2⟩
  · exact ⟨by omega, u2⟩
  · exact ⟨by rw [len_rep, hu]; decide, low_rep u2 _⟩
  · exact ⟨by rw [List.length_append]; omega, low_app lc u2⟩
  · exact ⟨by rw [List.length_append]; show _ + 1 ≤ _; omega, low_app z2 la⟩
  · exact ⟨by omega, lc2⟩
end K02

namespace K02
open PySem PySem.Spec PyProof.Rows L2 DL
/-- a row of at most n values -/
def RowN (n : Nat) (d : D) : Prop := ∃ xs, d = .tup xs ∧ xs.length ≤ n ∧ Vals' xs
theorem noRefs_val : ∀ {xs : List D}, Vals' xs → noRefs xs = true
  | [], _ => rfl
  | x :: xs, h => by
    simp only [noRefs, Bool.and_eq_true]
    refine ⟨?_, noRefs_val fun z hz => h z (List.mem_cons_of_mem _ hz)⟩
    rcases (h x (List.mem_cons_self ..)).cases with ⟨i, rfl, _⟩ | ⟨z, rfl, _⟩ <;> rfl
theorem vals_app {xs ys : List D} (h1 : Vals' xs) (h2 : Vals' ys) : Vals' (xs ++ ys) := by
  intro x hx
  rcases List.mem_append.mp hx with h | h
  · exact h1 x h
  · exact h2 x h
theorem vals_one {x : D} (h : Val x) : Vals' [x] := by intro y hy; rw [List.mem_singleton.mp hy]; exact h
theorem vals_cut {xs : List D} (h : Vals' xs) (lo hi : Option Int) : Vals' (cutL xs lo hi) := fun c hc => h c (List.mem_of_mem_drop (List.mem_of_mem_take hc))
theorem row_ok {n : Nat} {d : D} (h : RowN n d) (k : Nat) : ok (k + 1) d = true := by
  obtain ⟨xs, rfl, _, hv⟩ := h
  simp only [ok, Bool.and_eq_true]
  exact ⟨by simp, oks_iff.mpr fun x hx => (val_ok (hv x hx) k).1⟩
def wL (a : Addr) (st : List D) (pre : List D) (ρ : En) : Prop := ∃ (rs : List D) (y3 y4 y5 y6 y7 y8 : Sv), ρ = [.val (.raw (.ref a)), .val (.lst st), .own rs, y3, y4, y5, y6, y7, y8] ∧ rs.length = pre.length + 1 ∧ ∀ r ∈ rs, RowN (30 + pre.length) r
theorem wL_next {a : Addr} {st pre rs : List D} {d r : D} {y3 y4 y5 y6 y7 y8 : Sv} (h1 : rs.length = pre.length + 1) (h2 : ∀ r ∈ rs, RowN (30 + pre.length) r) (hr : RowN (30 + pre.length + 1) r) : wL a st (pre ++ [d]) [.val (.raw (.ref a)), .val (.lst st), .own (rs ++ [r]), y3, y4, y5, y6, y7, y8] := by
  refine ⟨_, _, _, _, _, _, _, rfl, by simp [h1], fun x hx => ?_⟩
  rw [List.length_append]
  rcases List.mem_append.mp hx with h | h
  · obtain ⟨xs, e, hl, hv⟩ := h2 x h
    exact ⟨xs, e, by simp; omega, hv⟩
  · rw [List.mem_singleton.mp h]
    obtain ⟨xs, e, hl, hv⟩ := hr
    exact ⟨xs, e, by simp; omega, hv⟩
theorem m_lines {a : Addr} : ∀ ds Q, f_lines a ds Q → t_lines a { nx := fun _ => Q .non, rt := Q } (st0 9 ds) := by
  rintro _ Q ⟨st, rfl, hne, hst, hvs, q⟩
  refine ⟨by decide, Nat.le_of_ble_eq_true rfl, 6, rfl, by decide, by decide, ?_⟩
  refine forGo_inv (wL a st) [] ⟨_, _, _, _, _, _, _, rfl, rfl, fun r hr => ?_⟩ (fun p d r ρ G e hw k => ?_) fun ρ hw => ?_
  · rw [List.mem_singleton.mp hr]
    exact ⟨[], rfl, by decide, fun x hx => nomatch hx⟩
  · obtain ⟨rs, y3, y4, y5, y6, y7, y8, rfl, hl, hr⟩ := hw
    have hp : p.length < 6 := by
      have := congrArg List.length e
      simp only [List.nil_append, List.length_append, List.length_cons] at this
      rw [upTo_len] at this
      have e6 : (6 : Int).toNat = 6 := rfl
      omega
    refine ⟨_, rfl, 4, rfl, by decide, by decide, fun w w1 w2 => ⟨rs, rfl, _, rfl, _, rfl, _, rfl, .inr ⟨rs, rfl, (by intro z; rw [z] at hl; cases hl), by omega, fun x hx => ?_⟩⟩⟩
    obtain ⟨xs, rfl, hxl, hxv⟩ := hr x hx
    refine ⟨by simp only [noRef]; exact noRefs_val hxv, _, _, rfl, ?_⟩
    have pick : ∀ (ρ : En) (P : D → Prop), ρ[0]? = some (.val (.raw (.ref a))) → ρ[1]? = some (.val (.lst st)) → (∀ y, Val y → P y) → dCall (f_pick a) (dCons (dV 0) (dCons (dV 1) dNil)) ρ P := fun ρ P e0 e1 hP =>
      ⟨_, e0, _, e1, _, rfl, .inr ⟨st, rfl, hne, by omega, fun y hy => hP y (hvs y hy)⟩⟩
    refine ⟨_, rfl, rfl, rfl, _, rfl, ite2 (fun _ => ?_) fun _ => ?_⟩
    · refine ⟨rs, rfl, by omega, _, rfl, pick _ _ rfl rfl fun y hy => ⟨Nat.le_of_ble_eq_true rfl, ?_, k _ (wL_next hl hr ⟨_, rfl, by simp; omega, vals_app hxv (vals_one hy)⟩)⟩⟩
      unfold sz; simp; omega
    refine ⟨_, rfl, rfl, rfl, _, rfl, ite2 (fun _ => ?_) fun _ => ?_⟩
    · refine ⟨rs, rfl, by omega, _, rfl, _, rfl, _, rfl, _, rfl, by omega, by omega, fun c c1 c2 => ⟨c, rfl, k _ (wL_next hl hr ⟨_, rfl, ?_, vals_cut hxv _ _⟩)⟩⟩
      have := len_cut xs none (some c)
      omega
    refine ⟨_, rfl, rfl, rfl, _, rfl, ?_⟩
    have last : ∀ ρ : En, ρ = [.val (.raw (.ref a)), .val (.lst st), .own rs, .val d, .val (.int w), .val (.tup xs), y6, y7, y8] → dSeq (dSet 7 (dCall (f_pick a) (dCons (dV 0) (dCons (dFz (dLst (dCons (dC (.int 1)) (dCons (dC (.int 2)) (dCons (dC (.int 3)) (dCons (dC (.int 6)) (dCons (dC (.int 30)) dNil))))))) dNil))))
        (dApp 2 (dB bTuple (dCons (dFz (dLc (iRg1 (dCons (dV 7) dNil)) (bNm 8) dYes (dCall (f_pick a) (dCons (dV 0) (dCons (dV 1) dNil))) [8])) dNil))) { nx := G, rt := Q, bk := fun ρ => dFrz 2 (dRet (dV 2)) { nx := fun _ => Q .non, rt := Q } ρ, ct := G } ρ := by
      rintro _ rfl
      refine ⟨_, rfl, Nat.le_of_ble_eq_true rfl, _, rfl, .inr ⟨_, rfl, by simp, by simp, fun x hx => ?_⟩⟩
      have hx2 : ∃ n : Nat, x = .int n ∧ n ≤ 30 := by
        simp only [List.mem_cons, List.not_mem_nil, or_false] at hx
        rcases hx with rfl | rfl | rfl | rfl | rfl
        · exact ⟨1, rfl, by decide⟩
        · exact ⟨2, rfl, by decide⟩
        · exact ⟨3, rfl, by decide⟩
        · exact ⟨6, rfl, by decide⟩
        · exact ⟨30, rfl, by decide⟩
      obtain ⟨n, rfl, hn⟩ := hx2
      refine ⟨rs, rfl, by omega, _, rfl, n, rfl, by omega, by omega, ?_⟩
      refine lcGo_all Val (fun d hd P hP => pick _ _ rfl rfl hP) fun ys e hy => k _ (wL_next hl hr ⟨_, rfl, ?_, hy⟩)
      rw [e, upTo_len]
      omega
    refine ite2 (fun _ => ?_) fun _ => iteF (last _ rfl)
    refine ⟨_, rfl, Nat.zero_le _, row_ok ⟨xs, rfl, hxl, hxv⟩ 59, rfl, _, rfl, ?_⟩
    refine ite2 (fun hne2 => ?_) fun _ => last _ rfl
    have hx0 : 0 < xs.length := by
      cases xs with
      | nil => exact absurd hne2 (by decide)
      | cons _ _ => simp
    refine ⟨_, rfl, _, rfl, _, rfl, by omega, by omega, fun c c1 c2 => ?_⟩
    have k1 := len_cut xs none (some c)
    have k3 : (cutL xs none (some c)).length + (cutL xs (some (c + 1)) none).length ≤ xs.length := by
      obtain ⟨j, rfl⟩ := Int.eq_ofNat_of_zero_le c1
      have e1 : cutL xs none (some (j : Int)) = xs.take j := cutL_take xs j
      have e2 : (cutL xs (some ((j : Int) + 1)) none).length ≤ xs.length - (j + 1) := by
        unfold cutL
        rw [show ((j : Int) + 1) = ((j + 1 : Nat) : Int) by omega, HT.sIx_nat, HT.sIx_none, List.length_take, List.length_drop]
        omega
      rw [e1, List.length_take]
      omega
    refine ⟨rs, rfl, by omega, _, rfl, _, rfl, c, rfl, pick _ _ rfl rfl fun y hy => ⟨Nat.le_of_ble_eq_true rfl, ?_, _, rfl, _, rfl, c + 1, rfl, ?_, k _ (wL_next hl hr ⟨_, rfl, ?_, vals_app (vals_app (vals_cut hxv _ _) (vals_one hy)) (vals_cut hxv _ _)⟩)⟩⟩
    · unfold sz; simp; omega
    · unfold sz; simp; omega
    · simp; omega
  · obtain ⟨rs, y3, y4, y5, y6, y7, y8, rfl, hl, hr⟩ := hw
    refine ⟨rs, rfl, _, rfl, q rs ?_ fun r h => ?_⟩
    · rw [hl, List.nil_append, upTo_len]
      decide
    · obtain ⟨xs, rfl, h1, h2⟩ := hr r h
      refine ⟨?_, h2⟩
      rw [List.nil_append, upTo_len] at h1
      exact Nat.le_trans h1 (by decide)
end K02

namespace K02
open PySem PySem.Spec PyProof.Rows L2 DL
theorem text_at : ∀ (z u : List Nat) (j c d : Nat), z[j]? = some c → u[j]? = some d → (∀ i, i < j → z[i]? = u[i]?) → c ≠ d → decide (z < u) = decide (c < d)
  | [], _, _, _, _, h, _, _, _ => by simp at h
  | _ :: _, [], _, _, _, _, h, _, _ => by simp at h
  | a :: z, b :: u, 0, c, d, h1, h2, _, hn => by
    simp at h1 h2
    subst h1 h2
    rw [decide_eq_decide, List.cons_lt_cons_iff]
    constructor
    · rintro (h | ⟨h, _⟩)
      · exact h
      · exact absurd h hn
    · exact .inl
  | a :: z, b :: u, j + 1, c, d, h1, h2, hp, hn => by
    have e : a = b := by have := hp 0 (Nat.succ_pos j); simpa using this
    subst e
    rw [← text_at z u j c d (by simpa using h1) (by simpa using h2) (fun i hi => by have := hp (i + 1) (Nat.succ_lt_succ hi); simpa using this) hn, decide_eq_decide, List.cons_lt_cons_iff]
    constructor
    · rintro (h | ⟨_, h⟩)
      · exact absurd h (Nat.lt_irrefl _)
      · exact h
    · exact fun h => .inr ⟨rfl, h⟩
theorem text_end : ∀ (z u : List Nat), (∀ i, i < min z.length u.length → z[i]? = u[i]?) → decide (z < u) = decide (z.length < u.length)
  | [], [], _ => by simp
  | [], _ :: _, _ => by simp
  | _ :: _, [], _ => by simp
  | a :: z, b :: u, hp => by
    have e : a = b := by have := hp 0 (by simp); simpa using this
    subst e
    have ih := text_end z u fun i hi => by have := hp (i + 1) (by simp only [List.length_cons]; omega); simpa using this
    have e2 : decide ((a :: z).length < (a :: u).length) = decide (z.length < u.length) := by simp
    rw [e2, ← ih, decide_eq_decide, List.cons_lt_cons_iff]
    constructor
    · rintro (h | ⟨_, h⟩)
      · exact absurd h (Nat.lt_irrefl _)
      · exact h
    · exact fun h => .inr ⟨rfl, h⟩
theorem row_at : ∀ (xs ys : List D) (j : Nat) (x y : D), Vals' xs → Vals' ys → xs[j]? = some x → ys[j]? = some y → (∀ i, i < j → xs[i]? = ys[i]?) → x ≠ y → dlts (xs.map rk) (ys.map rk) = ahead x y
  | [], _, _, _, _, _, _, h, _, _, _ => by simp at h
  | _ :: _, [], _, _, _, _, _, _, h, _, _ => by simp at h
  | a :: z, b :: u, 0, c, d, v1, v2, h1, h2, _, hn => by
    simp at h1 h2
    subst h1 h2
    simp only [List.map_cons, dlts]
    rw [if_neg fun q => hn ((deq_rk (v1 _ (List.mem_cons_self ..)) (v2 _ (List.mem_cons_self ..))).mp q)]
    rfl
  | a :: z, b :: u, j + 1, c, d, v1, v2, h1, h2, hp, hn => by
    have e : a = b := by have := hp 0 (Nat.succ_pos j); simpa using this
    subst e
    simp only [List.map_cons, dlts]
    rw [if_pos ((deq_rk (v1 _ (List.mem_cons_self ..)) (v1 _ (List.mem_cons_self ..))).mpr rfl)]
    exact row_at z u j c d (fun x h => v1 x (List.mem_cons_of_mem _ h)) (fun x h => v2 x (List.mem_cons_of_mem _ h)) (by simpa using h1) (by simpa using h2) (fun i hi => by have := hp (i + 1) (Nat.succ_lt_succ hi); simpa using this) hn
theorem row_end : ∀ (xs ys : List D), Vals' xs → (∀ i, i < min xs.length ys.length → xs[i]? = ys[i]?) → dlts (xs.map rk) (ys.map rk) = decide (xs.length < ys.length)
  | [], [], _, _ => by simp [dlts]
  | [], _ :: _, _, _ => by simp [dlts]
  | _ :: _, [], _, _ => by simp [dlts]
  | a :: z, b :: u, v, hp => by
    have e : a = b := by have := hp 0 (by simp); simpa using this
    subst e
    have ih := row_end z u (fun x h => v x (List.mem_cons_of_mem _ h)) fun i hi => by have := hp (i + 1) (by simp only [List.length_cons]; omega); simpa using this
    simp only [List.map_cons, dlts]
    rw [if_pos ((deq_rk (v _ (List.mem_cons_self ..)) (v _ (List.mem_cons_self ..))).mpr rfl), ih]
    simp
/-- the item of a range -/
theorem upTo_at {lo : Int} {n : Nat} {p r : List D} {d : D} (e : DL.upTo lo n = p ++ d :: r) : d = .int (lo + p.length) ∧ p.length < n := by
  have h1 : (DL.upTo lo n)[p.length]? = some d := by rw [e, List.getElem?_append_right (Nat.le_refl _), Nat.sub_self]; rfl
  have h2 : p.length < n := by
    have := congrArg List.length e
    rw [upTo_len] at this
    simp at this
    omega
  unfold DL.upTo at h1
  rw [List.getElem?_map, List.getElem?_range h2] at h1
  exact ⟨(Option.some.inj h1).symm, h2⟩
theorem min_len (m n : Nat) : (if (n : Int) < m then (n : Int) else m) = ((min m n : Nat) : Int) := by
  split <;> omega
theorem m_is_ahead : ∀ ds Q, f_is_ahead ds Q → t_is_ahead { nx := fun _ => Q .non, rt := Q } (st0 3 ds) := by
  rintro _ Q ⟨x, y, rfl, hx, hy, q⟩
  rcases hx.cases with ⟨i, rfl, hi1, hi2⟩ | ⟨z, rfl, hz1, hz2⟩
  · refine ⟨_, rfl, rfl, by decide, _, rfl, ?_⟩
    rw [show isA "int" (.int i) = true from by simp [isA]]
    refine iteT ⟨_, rfl, rfl, by decide, _, rfl, ?_⟩
    rw [show isA "int" (.int i) = true from by simp [isA]]
    refine iteT ⟨_, rfl, ?_⟩
    rcases hy.cases with ⟨j, rfl, hj1, hj2⟩ | ⟨u, rfl, hu1, hu2⟩
    · refine ⟨rfl, by decide, _, rfl, _, rfl, ?_⟩
      rw [show isA "int" (.int j) = true from by simp [isA]]
      refine iteF ⟨_, rfl, _, rfl, rfl, rfl, rfl, by simp, ?_⟩
      rw [ahead_ii] at q
      exact q
    · refine ⟨rfl, by decide, _, rfl, _, rfl, ?_⟩
      rw [show isA "int" (.str u) = false from by simp [isA]]
      refine iteT ?_
      rw [ahead_is] at q
      exact q
  · refine ⟨_, rfl, rfl, by decide, _, rfl, ?_⟩
    rw [show isA "int" (.str z) = false from by simp [isA]]
    refine iteF ⟨_, rfl, ?_⟩
    rcases hy.cases with ⟨j, rfl, hj1, hj2⟩ | ⟨u, rfl, hu1, hu2⟩
    · refine ⟨rfl, by decide, _, rfl, ?_⟩
      rw [show isA "int" (.int j) = true from by simp [isA]]
      refine iteT ⟨_, rfl, rfl, by decide, _, rfl, ?_⟩
      rw [show isA "int" (.str z) = false from by simp [isA]]
      refine iteF ?_
      rw [ahead_si] at q
      exact q
    · refine ⟨rfl, by decide, _, rfl, ?_⟩
      rw [show isA "int" (.str u) = false from by simp [isA]]
      refine iteF ?_
      have sz1 : sz z.length := by unfold sz; omega
      have sz2 : sz u.length := by unfold sz; omega
      rw [ahead_ss] at q
      refine ⟨_, rfl, sz1, _, rfl, sz2, _, rfl, ?_, ?_, ?_⟩
      · rw [min_len]; omega
      · rw [min_len]; omega
      rw [min_len, Int.toNat_natCast]
      refine forGo_inv (fun p ρ => ∃ y2, ρ = [.val (.str z), .val (.str u), y2] ∧ ∀ i, i < p.length → z[i]? = u[i]?) [] ⟨_, rfl, fun i h => absurd h (Nat.not_lt_zero i)⟩ (fun p d r ρ G e hw k => ?_) fun ρ hw => ?_
      · obtain ⟨y2, rfl, hp⟩ := hw
        obtain ⟨rfl, hlt⟩ := upTo_at e
        have h1 : p.length < z.length := by omega
        have h2 : p.length < u.length := by omega
        rw [Int.zero_add]
        have a1 := List.getElem?_eq_getElem h1
        have a2 := List.getElem?_eq_getElem h2
        refine ⟨_, rfl, _, rfl, sz1, _, atI_nat a1, _, rfl, _, rfl, sz2, _, atI_nat a2, ?_⟩
        have lc : ∀ {w : List Nat} (hw : low w) (i : Nat) (h : i < w.length), ok 60 (.str [w[i]]) = true := fun hw i h => by
          have := hw _ (List.getElem_mem h)
          simp only [ok, List.all_cons, List.all_nil, Bool.and_true, decide_eq_true_eq]
          omega
        refine ⟨lc hz2 _ h1, lc hu2 _ h2, _, rfl, ?_⟩
        have e1 : deq (.str [z[p.length]]) (.str [u[p.length]]) = decide (z[p.length] = u[p.length]) := by
          simp only [deq]
          rw [Bool.eq_iff_iff]
          simp
        rw [e1]
        by_cases hc : z[p.length] = u[p.length]
        · rw [decide_eq_true hc]
          refine iteF (k _ ⟨_, rfl, fun i hi => ?_⟩)
          rw [List.length_append] at hi
          by_cases hi2 : i < p.length
          · exact hp i hi2
          · have : i = p.length := by simp at hi; omega
            subst this
            rw [a1, a2, hc]
        · rw [decide_eq_false hc]
          refine iteT ⟨_, rfl, _, rfl, sz1, _, atI_nat a1, _, rfl, _, rfl, sz2, _, atI_nat a2, rfl, rfl, rfl, by simp, ?_⟩
          rw [text_at z u _ _ _ a1 a2 hp hc] at q
          simp only [dlt, Int.ofNat_lt]
          exact q
      · obtain ⟨y2, rfl, hp⟩ := hw
        rw [List.nil_append, upTo_len] at hp
        refine ⟨_, rfl, sz1, _, rfl, sz2, rfl, rfl, rfl, by simp, ?_⟩
        rw [text_end z u hp] at q
        simp only [dlt, Int.ofNat_lt]
        exact q
theorem m_is_row_ahead : ∀ ds Q, f_is_row_ahead ds Q → t_is_row_ahead { nx := fun _ => Q .non, rt := Q } (st0 3 ds) := by
  rintro _ Q ⟨x, y, rfl, hx, hy, q⟩
  obtain ⟨xs, rfl, hx1, hx2⟩ := hx.cases
  obtain ⟨ys, rfl, hy1, hy2⟩ := hy.cases
  rw [rowAhead_eq] at q
  refine ⟨_, rfl, _, rfl, _, rfl, ?_, ?_, ?_⟩
  · rw [min_len]; omega
  · rw [min_len]; omega
  rw [min_len, Int.toNat_natCast]
  refine forGo_inv (fun p ρ => ∃ y2, ρ = [.val (.tup xs), .val (.tup ys), y2] ∧ ∀ i, i < p.length → xs[i]? = ys[i]?) [] ⟨_, rfl, fun i h => absurd h (Nat.not_lt_zero i)⟩ (fun p d r ρ G e hw k => ?_) fun ρ hw => ?_
  · obtain ⟨y2, rfl, hp⟩ := hw
    obtain ⟨rfl, hlt⟩ := upTo_at e
    have h1 : p.length < xs.length := by omega
    have h2 : p.length < ys.length := by omega
    rw [Int.zero_add]
    have a1 := List.getElem?_eq_getElem h1
    have a2 := List.getElem?_eq_getElem h2
    have vx := hx2 _ (List.getElem_mem h1)
    have vy := hy2 _ (List.getElem_mem h2)
    refine ⟨_, rfl, _, rfl, _, atI_nat a1, _, rfl, _, rfl, _, atI_nat a2, (val_ok vx _).1, (val_ok vy _).1, _, rfl, ?_⟩
    by_cases hc : xs[p.length] = ys[p.length]
    · rw [(deq_val vx vy).mpr hc]
      refine iteF (k _ ⟨_, rfl, fun i hi => ?_⟩)
      rw [List.length_append] at hi
      by_cases hi2 : i < p.length
      · exact hp i hi2
      · have : i = p.length := by simp at hi; omega
        subst this
        rw [a1, a2, hc]
    · rw [Bool.eq_false_iff.mpr fun z => hc ((deq_val vx vy).mp z)]
      refine iteT ⟨_, rfl, _, rfl, _, atI_nat a1, _, rfl, _, rfl, _, atI_nat a2, _, _, rfl, vx, vy, ?_⟩
      rw [row_at xs ys _ _ _ hx2 hy2 a1 a2 hp hc] at q
      exact q
  · obtain ⟨y2, rfl, hp⟩ := hw
    rw [List.nil_append, upTo_len] at hp
    refine ⟨_, rfl, _, rfl, rfl, rfl, rfl, by simp, ?_⟩
    rw [row_end xs ys hx2 hp] at q
    simp only [dlt, Int.ofNat_lt]
    exact q
end K02

namespace K02
open PySem PySem.Spec PyProof.Rows L2 DL
theorem put_perm (xs : List D) (x : D) : (put xs x).Perm (x :: xs) := by
  unfold put
  simp only
  generalize (xs.filter fun y => !rowAhead x y).length = n
  rw [List.append_assoc, List.singleton_append]
  refine (List.perm_middle).trans ?_
  rw [List.take_append_drop]
theorem putAll_perm : ∀ (xs acc : List D), (xs.foldl put acc).Perm (xs ++ acc)
  | [], acc => .refl _
  | x :: xs, acc => by
    refine (putAll_perm xs (put acc x)).trans ?_
    refine ((put_perm acc x).append_left xs).trans ?_
    exact List.perm_middle
theorem putAll_mem {xs : List D} {x : D} : x ∈ xs.foldl put [] ↔ x ∈ xs := by
  rw [(putAll_perm xs []).mem_iff, List.append_nil]
theorem putAll_len (xs : List D) : (xs.foldl put []).length = xs.length := by
  rw [(putAll_perm xs []).length_eq, List.append_nil]
theorem rows_noRef : ∀ {rs : List D}, (∀ r ∈ rs, Row r) → ∀ r ∈ rs, noRef r = true := fun h r hr => by
  obtain ⟨xs, rfl, _, hv⟩ := (h r hr).cases
  simp only [noRef]
  exact noRefs_val hv
theorem m_in_order : ∀ ds Q, f_in_order ds Q → t_in_order { nx := fun _ => Q .non, rt := Q } (st0 4 ds) := by
  rintro _ Q ⟨rs, rfl, hl, hr, q⟩
  refine ⟨Nat.zero_le _, _, rfl, rs, rfl, ?_⟩
  refine forGo_inv (fun p ρ => ∃ y2 y3, ρ = [.val (.lst rs), .own (p.foldl put []), y2, y3]) [] ⟨_, _, rfl⟩ (fun p d r ρ G e hw k => ?_) fun ρ hw => ?_
  · obtain ⟨y2, y3, rfl⟩ := hw
    have e : rs = p ++ d :: r := e
    have hp : ∀ x ∈ p.foldl put [], Row x := fun x hx => hr x (by rw [e]; exact List.mem_append_left _ (putAll_mem.mp hx))
    have hd : Row d := hr d (by rw [e]; simp)
    have hpl : (p.foldl put []).length ≤ 100 := by
      rw [putAll_len]
      have := congrArg List.length e
      simp at this
      omega
    refine ⟨_, rfl, by omega, _, rfl, _, rfl, _, rfl, ?_⟩
    refine lcGo_fm (fun y => if (!rowAhead d y) = true then some y else none) (fun y hy P Z h1 h2 => ?_) ?_
    · refine ⟨_, rfl, _, rfl, _, _, rfl, hd, hp y hy, _, rfl, ?_⟩
      refine ite2 (fun h => ⟨_, rfl, h1 _ (if_pos h)⟩) fun h => h2 (if_neg h)
    · refine ⟨rfl, _, rfl, by omega, ?_, _, rfl, k _ ⟨.val d, y3, ?_⟩⟩
      · have := List.length_filterMap_le (fun y => if (!rowAhead d y) = true then some y else none) (p.foldl put [])
        omega
      · have ef : (p.foldl put []).filterMap (fun y => if (!rowAhead d y) = true then some y else none) = (p.foldl put []).filter fun y => !rowAhead d y := by
          rw [← List.filterMap_eq_filter]
          rfl
        show [Sv.val (.lst rs), .own _, .val d, y3] = _
        rw [List.foldl_append]
        rw [ef, Int.toNat_natCast]
        rfl
  · obtain ⟨y2, y3, rfl⟩ := hw
    exact ⟨_, rfl, _, rfl, q⟩
end K02

namespace K02
open PySem PySem.Spec PyProof.Rows L2 DL
theorem val_ranks : Ranks Val rk := ⟨fun x y hx hy => deq_rk hx hy, ⟨fun x hx => ahead_irr hx, fun x y hx hy => ahead_tri hx hy, fun x y z hx hy hz => ahead_trans hx hy hz⟩⟩
theorem row_strict : Strict Row rowAhead where
  irr := fun x hx => by
    obtain ⟨xs, rfl, _, h⟩ := hx.cases
    rw [rowAhead_eq]; exact rows_irr h
  tri := fun x y hx hy h1 h2 => by
    obtain ⟨xs, rfl, _, h⟩ := hx.cases
    obtain ⟨ys, rfl, _, g⟩ := hy.cases
    rw [rowAhead_eq] at h1 h2
    rw [rows_tri h g h1 h2]
  tr := fun x y z hx hy hz h1 h2 => by
    obtain ⟨xs, rfl, _, h⟩ := hx.cases
    obtain ⟨ys, rfl, _, g⟩ := hy.cases
    obtain ⟨zs, rfl, _, k⟩ := hz.cases
    rw [rowAhead_eq] at h1 h2 ⊢
    exact rows_trans h g k h1 h2
theorem row_ranks : Ranks Row rrk := ⟨fun x y hx hy => deq_rrk hx hy, row_strict⟩
theorem put_is : put = putB rowAhead := rfl
theorem rows_told {rs : List D} (h : ∀ r ∈ rs, Row r) : ((prs rrk 0 rs).mergeSort dle).map (atPr rs) = putAll rs := by
  obtain ⟨h1, h2⟩ := pairs_sorted row_ranks h
  have p2 : (putAll rs).Perm rs := by have := putAll_perm rs []; rwa [List.append_nil] at this
  refine sorted_one row_strict (fun x hx => h x (h1.mem_iff.mp hx)) (h1.trans p2.symm) h2 ?_
  unfold putAll
  rw [put_is]
  exact putsB_sorted row_strict rs [] h (fun _ z => nomatch z) .nil
def single (x : D) : D := .tup [x]
def firstOf (r : D) : D := (rowOf r).getD 0 .non
theorem single_row {x : D} (h : Val x) : Row (single x) := ⟨Nat.le_of_ble_eq_true rfl, vals_one h⟩
theorem rowAhead_single {x y : D} (hx : Val x) (hy : Val y) : rowAhead (single x) (single y) = ahead x y := by
  show rowAhead (.tup [x]) (.tup [y]) = _
  rw [rowAhead_eq]
  simp only [List.map_cons, List.map_nil, dlts]
  by_cases e : x = y
  · subst e
    rw [if_pos ((deq_rk hx hx).mpr rfl), ahead_irr hx]
  · rw [if_neg fun z => e ((deq_rk hx hy).mp z)]
    rfl
theorem vals_told {xs : List D} (h : Vals' xs) : ((prs rk 0 xs).mergeSort dle).map (atPr xs) = (putAll (xs.map single)).map firstOf := by
  obtain ⟨h1, h2⟩ := pairs_sorted val_ranks h
  have hr : ∀ r ∈ xs.map single, Row r := fun r hr => by
    obtain ⟨x, hx, rfl⟩ := List.mem_map.mp hr
    exact single_row (h x hx)
  have p2 : (putAll (xs.map single)).Perm (xs.map single) := by have := putAll_perm (xs.map single) []; rwa [List.append_nil] at this
  have p3 : ((putAll (xs.map single)).map firstOf).Perm xs := by
    have := p2.map firstOf
    rwa [List.map_map, show (firstOf ∘ single) = id from rfl, List.map_id] at this
  refine sorted_one val_ranks.st (fun x hx => h x (h1.mem_iff.mp hx)) (h1.trans p3.symm) h2 ?_
  rw [List.pairwise_map]
  have s : (putAll (xs.map single)).Pairwise fun x y => rowAhead y x = false := by
    unfold putAll
    rw [put_is]
    exact putsB_sorted row_strict _ [] hr (fun _ z => nomatch z) .nil
  refine List.Pairwise.imp_of_mem ?_ s
  intro r t hr ht q
  obtain ⟨x, hx, rfl⟩ := List.mem_map.mp (p2.mem_iff.mp hr)
  obtain ⟨y, hy, rfl⟩ := List.mem_map.mp (p2.mem_iff.mp ht)
  rw [rowAhead_single (h y hy) (h x hx)] at q
  exact q
/-! what a comparison of two reprs asks -/
theorem ne_same {b : Bool} : deq (.bl b) (.bl b) = true := by simp [deq]
theorem rp {d : D} {Q : D → Prop} (h : Pl 40 25000 d) (q : Q (.str (shD d))) : bRepr [d] Q := ⟨ok_mono h.ok (by decide), h.sint, h.wt, q⟩
theorem eq_same (z : List Nat) : deq (.str z) (.str z) = true := by simp [deq]
theorem m_are_values_told : ∀ ds Q, f_are_values_told ds Q → t_are_values_told { nx := fun _ => Q .non, rt := Q } (st0 10 ds) := by
  rintro _ Q ⟨xs, rfl, hl, hv, q⟩
  refine ⟨_, rfl, xs, rfl, ?_⟩
  refine forGo_inv (fun p ρ => ∃ y1 y2 y3, ρ = [.val (.lst xs), y1, y2, y3, .no, .no, .no, .no, .no, .no]) [] ⟨_, _, _, rfl⟩ (fun p x r ρ G e hw k => ?_) fun ρ hw => ?_
  · obtain ⟨y1, y2, y3, rfl⟩ := hw
    have e : xs = p ++ x :: r := e
    have hx : Val x := hv x (by rw [e]; simp)
    have hR : Pl 40 25000 (.lst [rk x, rk x]) := (Pl.lst (n := 1) (k := 82) (xs := [rk x, rk x]) fun y hy => by
      simp only [List.mem_cons, List.not_mem_nil, or_false, or_self] at hy
      rw [hy]; exact rk_pl hx).mono (by decide) (Nat.le_of_ble_eq_true rfl)
    refine ⟨_, rfl, _, rfl, hx, _, rfl, rfl, rfl, _, rfl, hx, Nat.le_of_ble_eq_true rfl, ?_⟩
    refine ⟨ok_mono hR.ok (by decide), hR.sint, hR.wt, ?_⟩
    refine ⟨_, rfl, _, rfl, hx, Nat.le_of_ble_eq_true rfl, 2, rfl, by decide, by decide, by unfold sz; exact Nat.le_of_ble_eq_true rfl, ?_⟩
    rw [show rep 2 [rk x] = [rk x, rk x] from rfl]
    refine ⟨ok_mono hR.ok (by decide), hR.sint, hR.wt, shD_ok hR.cln _, shD_ok hR.cln _, _, rfl, ?_⟩
    rw [eq_same]
    refine iteF ?_
    refine ⟨_, rfl, xs, rfl, ?_⟩
    refine forGo_inv (fun p ρ => ∃ y2 y3, ρ = [.val (.lst xs), .val x, y2, y3, .no, .no, .no, .no, .no, .no]) [] ⟨_, _, rfl⟩ (fun p' y r' ρ G' e' hw k' => ?_) fun ρ hw => ?_
    · obtain ⟨y2, y3, rfl⟩ := hw
      have e' : xs = p' ++ y :: r' := e'
      have hy : Val y := hv y (by rw [e']; simp)
      refine ⟨_, rfl, _, rfl, hx, _, rfl, _, rfl, hy, Nat.le_of_ble_eq_true rfl, ?_⟩
      have at0 : atI [rk x, rk y] 0 = some (rk x) := rfl
      have at1 : atI [rk x, rk y] 1 = some (rk y) := rfl
      have okx : ok 60 (rk x) = true := ok_mono (rk_pl hx).ok (by decide)
      have oky : ok 60 (rk y) = true := ok_mono (rk_pl hy).ok (by decide)
      refine ⟨_, rfl, _, at0, _, rfl, _, at1, okx, oky, cmk_rk hx hy, ?_, _, rfl, _, rfl, _, _, rfl, hx, hy, rfl, rfl, _, rfl, ?_⟩
      · obtain ⟨i, _, ei⟩ := rk_eq hx
        rw [ei]; simp
      rw [show deq (.bl (dlt (rk x) (rk y))) (.bl (ahead x y)) = true from ne_same]
      refine iteF ?_
      have px : Pl 50 25000 x := (val_pl hx).mono (by decide) (by decide)
      have py : Pl 50 25000 y := (val_pl hy).mono (by decide) (by decide)
      refine ⟨_, rfl, _, at0, _, rfl, _, at1, okx, oky, _, rfl, px.ok, px.sint, px.wt, ?_⟩
      refine ⟨_, rfl, py.ok, py.sint, py.wt, ⟨shD_ok (val_pl hx).cln _, shD_ok (val_pl hy).cln _, rfl, rfl, _, rfl, ?_⟩⟩
      have eb : deq (rk x) (rk y) = deq (.str (shD x)) (.str (shD y)) := by
        rw [Bool.eq_iff_iff, deq_rk hx hy, shD_beq (val_pl hx).cln (val_pl hy).cln]
      rw [eb, ne_same]
      exact iteF (k' _ ⟨_, _, rfl⟩)
    · obtain ⟨y2, y3, rfl⟩ := hw
      exact k _ ⟨_, _, _, rfl⟩
  · obtain ⟨y1, y2, y3, rfl⟩ := hw
    refine ⟨_, rfl, xs, rfl, ?_⟩
    have en : ∀ (k : Nat) (ys : List D), (numd k ys).map (fun t => match t with | .tup [i, x] => .tup [rk x, i] | d => d) = prs rk k ys := by
      intro k ys
      induction ys generalizing k with
      | nil => rfl
      | cons y ys ih => simp only [numd, prs, List.map_cons, ih]
    have nm : ∀ (k : Nat) (ys : List D) (t : D), t ∈ numd k ys → ∃ (i : Nat) (x : D), t = .tup [.int (i : Int), x] ∧ x ∈ ys := by
      intro k ys
      induction ys generalizing k with
      | nil => intro t ht; cases ht
      | cons y ys ih =>
        intro t ht
        rcases List.mem_cons.mp ht with rfl | ht
        · exact ⟨k, y, rfl, List.mem_cons_self ..⟩
        · obtain ⟨i, x, h1, h2⟩ := ih (k + 1) t ht
          exact ⟨i, x, h1, List.mem_cons_of_mem _ h2⟩
    refine lcGo_map (fun t => match t with | .tup [i, x] => .tup [rk x, i] | d => d) (fun t ht P hP => ?_) ?_
    · obtain ⟨i, x, rfl, hx⟩ := nm 0 xs t ht
      exact ⟨_, rfl, rfl, _, rfl, _, rfl, hv x hx, _, rfl, Nat.le_of_ble_eq_true rfl, hP⟩
    · rw [en]
      have pm : ∀ p ∈ prs rk 0 xs, ∃ (i : Nat) (x : D), xs[i]? = some x ∧ Val x ∧ p = .tup [rk x, .int (i : Int)] := fun p hp => by
        obtain ⟨i, x, h1, h2⟩ := prs_mem hp
        exact ⟨i, x, h1, hv x (List.mem_of_getElem? h1), by rw [h2, Nat.zero_add]⟩
      refine ⟨oks_iff.mpr fun p hp => ?_, fun p hp p' hp' => ?_, ?_, ?_⟩
      · obtain ⟨i, x, _, h2, rfl⟩ := pm p hp
        have := ok_mono (rk_pl h2).ok (show 1 ≤ 49 by decide)
        simp only [ok, oks, Bool.and_eq_true]
        exact ⟨by decide, this, trivial, trivial⟩
      · obtain ⟨i, x, _, h2, rfl⟩ := pm p hp
        obtain ⟨j, y, _, k2, rfl⟩ := pm p' hp'
        simp only [cmk, cmks]
        split
        · split <;> rfl
        · exact cmk_rk h2 k2
      · unfold sortable
        rw [Bool.or_eq_true]
        refine .inl (List.any_eq_true.mpr ⟨4, by decide, List.all_eq_true.mpr fun p hp => ?_⟩)
        obtain ⟨i, x, _, h2, rfl⟩ := pm p hp
        obtain ⟨z, _, ez⟩ := rk_eq h2
        simp [fkind, ez, dkind]
      · have ps : ∀ p ∈ (prs rk 0 xs).mergeSort dle, ∃ (i : Nat) (x : D), xs[i]? = some x ∧ Val x ∧ p = .tup [rk x, .int (i : Int)] := fun p hp => pm p ((List.mergeSort_perm _ _).mem_iff.mp hp)
        refine ⟨_, rfl, xs, rfl, ?_⟩
        refine lcGo_map single (fun x hx P hP => ⟨_, rfl, Nat.le_of_ble_eq_true rfl, hP⟩) ?_
        have hsr : ∀ r ∈ xs.map single, Row r := fun r hr => by
          obtain ⟨x, hx, rfl⟩ := List.mem_map.mp hr
          exact single_row (hv x hx)
        refine ⟨xs.map single, rfl, by rw [List.length_map]; exact hl, hsr, ?_⟩
        refine ⟨_, rfl, _, rfl, ?_⟩
        refine lcGo_map (atPr xs) (fun p hp P hP => ?_) ?_
        · obtain ⟨i, x, h1, h2, rfl⟩ := ps p hp
          refine ⟨_, rfl, _, rfl, _, rfl, _, atI_nat h1, ?_⟩
          have ax : atPr xs (.tup [rk x, .int (i : Int)]) = x := by simp only [atPr, Int.toNat_natCast, List.getD_eq_getElem?_getD, h1]; rfl
          rw [ax] at hP
          exact hP
        · rw [vals_told hv]
          generalize eB : (putAll (xs.map single)).map firstOf = B
          have hB : ∀ b ∈ B, Val b := fun b hb => by
            rw [← eB] at hb
            obtain ⟨r, hr, rfl⟩ := List.mem_map.mp hb
            obtain ⟨x, hx, rfl⟩ := List.mem_map.mp (putAll_mem.mp hr)
            exact hv x hx
          have lB : B.length ≤ 100 := by rw [← eB, List.length_map]; unfold putAll; rw [putAll_len, List.length_map]; omega
          have pB : Pl 40 25000 (.lst B) := (Pl.lst fun b hb => val_pl (hB b hb)).mono (by decide) (by omega)
          refine ⟨ok_mono pB.ok (by decide), pB.sint, pB.wt, ?_⟩
          refine ⟨_, rfl, _, rfl, ?_⟩
          refine lcGo_map firstOf (fun r hr P hP => ?_) ?_
          · obtain ⟨x, hx, rfl⟩ := List.mem_map.mp (putAll_mem.mp hr)
            exact ⟨_, rfl, _, rfl, hP⟩
          · rw [eB]
            refine ⟨ok_mono pB.ok (by decide), pB.sint, pB.wt, ?_⟩
            refine ⟨shD_ok pB.cln _, shD_ok pB.cln _, ?_⟩
            rw [eq_same]
            exact q
end K02

namespace K02
open PySem PySem.Spec PyProof.Rows L2 DL
theorem numd_mem : ∀ (k : Nat) (ys : List D) (t : D), t ∈ numd k ys → ∃ (i : Nat) (x : D), t = .tup [.int ((k + i : Nat) : Int), x] ∧ ys[i]? = some x
  | _, [], _, h => by cases h
  | k, y :: ys, t, h => by
    rcases List.mem_cons.mp h with rfl | h
    · exact ⟨0, y, rfl, rfl⟩
    · obtain ⟨i, x, h1, h2⟩ := numd_mem (k + 1) ys t h
      exact ⟨i + 1, x, by rw [h1, Nat.add_assoc, Nat.add_comm 1 i], by simpa using h2⟩
theorem swap_prs (rank : D → D) : ∀ (k : Nat) (ys : List D), (numd k (ys.map rank)).map (fun t => match t with | .tup [i, x] => .tup [x, i] | d => d) = prs rank k ys
  | _, [] => rfl
  | k, y :: ys => by simp only [numd, prs, List.map_cons, swap_prs rank (k + 1) ys]
theorem m_are_rows_told : ∀ ds Q, f_are_rows_told ds Q → t_are_rows_told { nx := fun _ => Q .non, rt := Q } (st0 12 ds) := by
  rintro _ Q ⟨rs, rfl, hl, hr, q⟩
  refine ⟨_, rfl, rs, rfl, ?_⟩
  refine forGo_inv (fun p ρ => ∃ y1 y2, ρ = [.val (.lst rs), y1, y2, .no, .no, .no, .no, .no, .no, .no, .no, .no]) [] ⟨_, _, rfl⟩ (fun p x r ρ G e hw k => ?_) fun ρ hw => ?_
  · obtain ⟨y1, y2, rfl⟩ := hw
    have e : rs = p ++ x :: r := e
    have hx : Row x := hr x (by rw [e]; simp)
    obtain ⟨xs, rfl, hxl, hxv⟩ := hx.cases
    have hR : Pl 40 25000 (.lst [rrk (.tup xs), rrk (.tup xs), rrk (.tup xs)]) := (Pl.lst (n := 2) (k := 3320) (xs := [rrk (.tup xs), rrk (.tup xs), rrk (.tup xs)]) fun y hy => by
      simp only [List.mem_cons, List.not_mem_nil, or_false, or_self] at hy
      rw [hy]; exact rrk_pl hx).mono (by decide) (Nat.le_of_ble_eq_true rfl)
    refine ⟨_, rfl, xs, rfl, ?_⟩
    refine lcGo_map rk (fun d hd P hP => ⟨_, rfl, _, rfl, hxv d hd, hP⟩) ?_
    refine ⟨_, rfl, _, rfl, hx, _, rfl, rfl, rfl, _, rfl, hx, _, rfl, _, rfl, hx, Nat.le_of_ble_eq_true rfl, ok_mono hR.ok (by decide), hR.sint, hR.wt, ?_⟩
    refine ⟨_, rfl, Nat.le_of_ble_eq_true rfl, 3, rfl, by decide, by decide, by unfold sz; exact Nat.le_of_ble_eq_true rfl, ?_⟩
    rw [show rep 3 [D.tup (xs.map rk)] = [rrk (.tup xs), rrk (.tup xs), rrk (.tup xs)] from rfl]
    refine ⟨ok_mono hR.ok (by decide), hR.sint, hR.wt, shD_ok hR.cln _, shD_ok hR.cln _, _, rfl, ?_⟩
    rw [eq_same]
    exact iteF (k _ ⟨_, _, rfl⟩)
  · obtain ⟨y1, y2, rfl⟩ := hw
    refine ⟨_, rfl, rs, rfl, ?_⟩
    refine lcGo_map rrk (fun d hd P hP => ⟨_, rfl, _, rfl, hr d hd, hP⟩) ?_
    refine ⟨_, rfl, rs, rfl, ?_⟩
    have rget : ∀ (i : Nat) (x : D), rs[i]? = some x → atI (rs.map rrk) (i : Int) = some (rrk x) := fun i x h => atI_nat (by rw [List.getElem?_map, h]; rfl)
    refine forGo_inv (fun p ρ => ∃ y1 y4 y5 y6, ρ = [.val (.lst rs), y1, y2, .val (.lst (rs.map rrk)), y4, y5, y6, .no, .no, .no, .no, .no]) [] ⟨_, _, _, _, rfl⟩ (fun p t r ρ G e hw k => ?_) fun ρ hw => ?_
    · obtain ⟨y1, y4, y5, y6, rfl⟩ := hw
      have ht : t ∈ numd 0 rs := by have e : numd 0 rs = p ++ t :: r := e; rw [e]; simp
      obtain ⟨i, x, rfl, hi⟩ := numd_mem 0 rs t ht
      rw [Nat.zero_add]
      have hx : Row x := hr x (List.mem_of_getElem? hi)
      refine ⟨_, rfl, rfl, _, rfl, rs, rfl, ?_⟩
      refine forGo_inv (fun p ρ => ∃ y5 y6, ρ = [.val (.lst rs), .val x, y2, .val (.lst (rs.map rrk)), .val (.int (i : Int)), y5, y6, .no, .no, .no, .no, .no]) [] ⟨_, _, rfl⟩ (fun p' t' r' ρ G' e' hw k' => ?_) fun ρ hw => ?_
      · obtain ⟨y5, y6, rfl⟩ := hw
        have ht' : t' ∈ numd 0 rs := by have e' : numd 0 rs = p' ++ t' :: r' := e'; rw [e']; simp
        obtain ⟨j, y, rfl, hj⟩ := numd_mem 0 rs t' ht'
        rw [Nat.zero_add]
        have hy : Row y := hr y (List.mem_of_getElem? hj)
        have okx : ok 60 (rrk x) = true := ok_mono (rrk_pl hx).ok (by decide)
        have oky : ok 60 (rrk y) = true := ok_mono (rrk_pl hy).ok (by decide)
        have px : Pl 50 25000 x := (row_pl hx).mono (by decide) (by decide)
        have py : Pl 50 25000 y := (row_pl hy).mono (by decide) (by decide)
        refine ⟨_, rfl, rfl, _, rfl, _, rfl, _, rget i x hi, _, rfl, _, rfl, _, rget j y hj, okx, oky, cmk_rrk hx hy, by simp [rrk], _, rfl, _, rfl, _, _, rfl, hx, hy, rfl, rfl, _, rfl, ?_⟩
        rw [show deq (.bl (dlt (rrk x) (rrk y))) (.bl (rowAhead x y)) = true from ne_same]
        refine iteF ?_
        refine ⟨_, rfl, _, rfl, _, rget i x hi, _, rfl, _, rfl, _, rget j y hj, okx, oky, _, rfl, px.ok, px.sint, px.wt, ?_⟩
        refine ⟨_, rfl, py.ok, py.sint, py.wt, ⟨shD_ok px.cln _, shD_ok py.cln _, rfl, rfl, _, rfl, ?_⟩⟩
        have eb : deq (rrk x) (rrk y) = deq (.str (shD x)) (.str (shD y)) := by
          rw [Bool.eq_iff_iff, deq_rrk hx hy, shD_beq px.cln py.cln]
        rw [eb, ne_same]
        exact iteF (k' _ ⟨_, _, rfl⟩)
      · obtain ⟨y5, y6, rfl⟩ := hw
        exact k _ ⟨_, _, _, _, rfl⟩
    · obtain ⟨y1, y4, y5, y6, rfl⟩ := hw
      refine ⟨_, rfl, _, rfl, ?_⟩
      refine lcGo_map (fun t => match t with | .tup [i, x] => .tup [x, i] | d => d) (fun t ht P hP => ?_) ?_
      · obtain ⟨i, x, rfl, _⟩ := numd_mem 0 _ t ht
        exact ⟨_, rfl, rfl, _, rfl, _, rfl, Nat.le_of_ble_eq_true rfl, hP⟩
      · rw [swap_prs]
        have pm : ∀ p ∈ prs rrk 0 rs, ∃ (i : Nat) (x : D), rs[i]? = some x ∧ Row x ∧ p = .tup [rrk x, .int (i : Int)] := fun p hp => by
          obtain ⟨i, x, h1, h2⟩ := prs_mem hp
          exact ⟨i, x, h1, hr x (List.mem_of_getElem? h1), by rw [h2, Nat.zero_add]⟩
        refine ⟨oks_iff.mpr fun p hp => ?_, fun p hp p' hp' => ?_, ?_, ?_⟩
        · obtain ⟨i, x, _, h2, rfl⟩ := pm p hp
          have := ok_mono (rrk_pl h2).ok (show 2 ≤ 49 by decide)
          simp only [ok, oks, Bool.and_eq_true]
          exact ⟨by decide, this, trivial, trivial⟩
        · obtain ⟨i, x, _, h2, rfl⟩ := pm p hp
          obtain ⟨j, y, _, k2, rfl⟩ := pm p' hp'
          simp only [cmk, cmks]
          split
          · split <;> rfl
          · exact cmk_rrk h2 k2
        · unfold sortable
          rw [Bool.or_eq_true]
          refine .inl (List.any_eq_true.mpr ⟨4, by decide, List.all_eq_true.mpr fun p hp => ?_⟩)
          obtain ⟨i, x, _, h2, rfl⟩ := pm p hp
          simp [fkind, rrk, dkind]
        · have ps : ∀ p ∈ (prs rrk 0 rs).mergeSort dle, ∃ (i : Nat) (x : D), rs[i]? = some x ∧ Row x ∧ p = .tup [rrk x, .int (i : Int)] := fun p hp => pm p ((List.mergeSort_perm _ _).mem_iff.mp hp)
          refine ⟨_, rfl, _, rfl, ?_⟩
          refine lcGo_map (atPr rs) (fun p hp P hP => ?_) ?_
          · obtain ⟨i, x, h1, h2, rfl⟩ := ps p hp
            refine ⟨_, rfl, _, rfl, _, rfl, _, atI_nat h1, ?_⟩
            have ax : atPr rs (.tup [rrk x, .int (i : Int)]) = x := by simp only [atPr, Int.toNat_natCast, List.getD_eq_getElem?_getD, h1]; rfl
            rw [ax] at hP
            exact hP
          · rw [rows_told hr]
            have hB : ∀ b ∈ putAll rs, Row b := fun b hb => hr b (putAll_mem.mp hb)
            have lB : (putAll rs).length ≤ 12 := by unfold putAll; rw [putAll_len]; exact hl
            have pB : Pl 40 25000 (.lst (putAll rs)) := (Pl.lst fun b hb => row_pl (hB b hb)).mono (by decide) (by omega)
            refine ⟨ok_mono pB.ok (by decide), pB.sint, pB.wt, ?_⟩
            refine ⟨_, rfl, rs, rfl, by omega, hr, ?_⟩
            refine ⟨ok_mono pB.ok (by decide), pB.sint, pB.wt, shD_ok pB.cln _, shD_ok pB.cln _, ?_⟩
            rw [eq_same]
            exact q
end K02

namespace K02
open PySem PySem.Spec PyProof.Rows L2 DL
abbrev s_value_rank : Stmt := topS 1
theorem sc_value_rank : FnScope ["value"] ["value"] (defScope s_value_rank) := ⟨rfl, rfl, rfl, by decide +kernel, rfl, by decide +kernel, by decide +kernel⟩
abbrev s_row_rank : Stmt := topS 2
theorem sc_row_rank : FnScope ["row", "value"] ["row"] (defScope s_row_rank) := ⟨rfl, rfl, rfl, by decide +kernel, rfl, by decide +kernel, by decide +kernel⟩
abbrev s_pick : Stmt := topS 6
theorem sc_pick : FnScope ["_law_purse_here", "_law_some"] ["_law_purse_here", "_law_some"] (defScope s_pick) := ⟨rfl, rfl, rfl, by decide +kernel, rfl, by decide +kernel, by decide +kernel⟩
abbrev s_word : Stmt := topS 7
theorem sc_word : FnScope ["_law_purse_here", "_law_size", "_law_turn"] ["_law_purse_here", "_law_size"] (defScope s_word) := ⟨rfl, rfl, rfl, by decide +kernel, rfl, by decide +kernel, by decide +kernel⟩
abbrev s_stock : Stmt := topS 8
theorem sc_stock : FnScope ["_law_purse_here", "_law_many", "_law_word_here", "_law_letter", "_law_some", "_law_turn"] ["_law_purse_here"] (defScope s_stock) := ⟨rfl, rfl, rfl, by decide +kernel, rfl, by decide +kernel, by decide +kernel⟩
abbrev s_lines : Stmt := topS 9
theorem sc_lines : FnScope ["_law_purse_here", "_law_stock_here", "_law_found", "_law_turn", "_law_way", "_law_elder", "_law_at", "_law_size", "_law_k"] ["_law_purse_here", "_law_stock_here"] (defScope s_lines) := ⟨rfl, rfl, rfl, by decide +kernel, rfl, by decide +kernel, by decide +kernel⟩
abbrev s_is_ahead : Stmt := topS 10
theorem sc_is_ahead : FnScope ["_law_one", "_law_two", "_law_at"] ["_law_one", "_law_two"] (defScope s_is_ahead) := ⟨rfl, rfl, rfl, by decide +kernel, rfl, by decide +kernel, by decide +kernel⟩
abbrev s_is_row_ahead : Stmt := topS 11
theorem sc_is_row_ahead : FnScope ["_law_one", "_law_two", "_law_at"] ["_law_one", "_law_two"] (defScope s_is_row_ahead) := ⟨rfl, rfl, rfl, by decide +kernel, rfl, by decide +kernel, by decide +kernel⟩
abbrev s_in_order : Stmt := topS 12
theorem sc_in_order : FnScope ["_law_lines_here", "_law_found", "_law_line", "_law_one"] ["_law_lines_here"] (defScope s_in_order) := ⟨rfl, rfl, rfl, by decide +kernel, rfl, by decide +kernel, by decide +kernel⟩
abbrev s_pair : Stmt := topS 13
theorem sc_pair : FnScope ["_law_thing"] ["_law_thing"] (defScope s_pair) := ⟨rfl, rfl, rfl, by decide +kernel, rfl, by decide +kernel, by decide +kernel⟩
abbrev s_are_values_told : Stmt := topS 14
theorem sc_are_values_told : FnScope ["_law_stock_here", "_law_one", "_law_two", "_law_ranks", "_law_ranked", "_law_lines_here", "_law_at", "_law_thing", "_law_pair_here", "_law_line"] ["_law_stock_here"] (defScope s_are_values_told) := ⟨rfl, rfl, rfl, by decide +kernel, rfl, by decide +kernel, by decide +kernel⟩
abbrev s_are_rows_told : Stmt := topS 15
theorem sc_are_rows_told : FnScope ["_law_lines_here", "_law_one", "_law_due", "_law_ranks", "_law_at", "_law_to", "_law_two", "_law_ranked", "_law_spot", "_law_rank", "_law_thing", "_law_pair_here"] ["_law_lines_here"] (defScope s_are_rows_told) := ⟨rfl, rfl, rfl, by decide +kernel, rfl, by decide +kernel, by decide +kernel⟩
section
variable {P : Program} {w : World} {K : PySem.W.Frag} {mg : Str → Option Value} {base : Heap} {a g c : Addr}
theorem g_value_rank {f : Addr} {fd : FuncData} (U : L2.Fun K "value_rank" "value_rank" s_value_rank f fd) (m_isinstance : mg "isinstance" = none) (m_str : mg "str" = none) : FnG P w K mg base CX0 1 f fd ["value"] (spD K (Pur a g c) f_value_rank) := by
  refine dfn_of (k := 0) U sc_value_rank l_value_rank fun cdv A outer s H E hr hgd => ⟨t_value_rank, ?_, m_value_rank⟩
  have nd := sc_value_rank.nd
  exact (dss_one (ds_ret (de_if (dt_val (de_b call_Isa (by rfl) m_isinstance (by decide +kernel) (dab_cons (DE.db (dv 0)) (dab_cons (DE.db (de_ty (by rfl) m_str (by decide +kernel))) dab_nil)))) (de_tup (da_cons de_int (da_cons (dv 0) da_nil))) (de_tup (da_cons de_int (da_cons (dv 0) da_nil))))))
theorem g_row_rank {fvalue_rank : Addr} {dvalue_rank : FuncData} {f : Addr} {fd : FuncData} (U : L2.Fun K "row_rank" "row_rank" s_row_rank f fd) (C_value_rank : Cal P w K mg base 1 "value_rank" fvalue_rank dvalue_rank ["value"] (Pur a g c) f_value_rank) (m_tuple : mg "tuple" = none) : FnG P w K mg base CX0 2 f fd ["row"] (spD K (Pur a g c) f_row_rank) := by
  refine dfn_of (k := 1) U sc_row_rank l_row_rank fun cdv A outer s H E hr hgd => ⟨t_row_rank, ?_, m_row_rank⟩
  have nd := sc_row_rank.nd
  exact (dss_one (ds_ret (de_bT call_Tuple (by rfl) m_tuple (by decide +kernel) (dab_cons (DE.db (DF.de (df_lc (own := [("value", 1)]) (B := (bNm 1)) (is := [1]) (by rfl) nd (di_tup (dv 0)) (blkOk_by (by rfl)) (fun _ _ _ _ _ => (dg_name (i := 1) nd rfl (.inl rfl))) (fun _ _ _ _ _ => dts_nil) (fun _ _ _ _ _ => (de_c C_value_rank (hr.mono (by decide)) hgd (da_cons (dv 1) da_nil)))))) dab_nil))))
theorem g_pick {fdraw : Addr} {ddraw : FuncData} {f : Addr} {fd : FuncData} (U : L2.Fun K "_law_pick" "_law_pick" s_pick f fd) (C_draw : Cal P w K mg base 1 "_law_draw" fdraw ddraw ["_law_purse_here", "_law_many"] (Pur a g c) (fDraw a)) (m_len : mg "len" = none) : FnG P w K mg base CX0 2 f fd ["_law_purse_here", "_law_some"] (spD K (Pur a g c) (f_pick a)) := by
  refine dfn_of (k := 1) U sc_pick l_pick fun cdv A outer s H E hr hgd => ⟨(t_pick a), ?_, m_pick⟩
  have nd := sc_pick.nd
  exact (dss_one (ds_ret (de_ix (DE.db (dv 1)) (de_c C_draw (hr.mono (by decide)) hgd (da_cons (dv 0) (da_cons (de_b call_Len (by rfl) m_len PySem.boot_len (dab_cons (DE.db (dv 1)) dab_nil)) da_nil))) (fun _ _ => rfl))))
theorem g_word {fpick : Addr} {dpick : FuncData} {f : Addr} {fd : FuncData} (U : L2.Fun K "_law_word" "_law_word" s_word f fd) (C_pick : Cal P w K mg base 2 "_law_pick" fpick dpick ["_law_purse_here", "_law_some"] (Pur a g c) (f_pick a)) (m_range : mg "range" = none) : FnG P w K mg base CX0 3 f fd ["_law_purse_here", "_law_size"] (spD K (Pur a g c) (f_word a)) := by
  refine dfn_of (k := 2) U sc_word l_word fun cdv A outer s H E hr hgd => ⟨(t_word a), ?_, m_word⟩
  have nd := sc_word.nd
  exact (dss_one (ds_ret (de_join (de_str (by rfl)) (DE.db (DF.de (df_lc (own := [("_law_turn", 2)]) (B := (bNm 2)) (is := [2]) (by rfl) nd (di_range1 (by rfl) m_range (da_cons (dv 1) da_nil)) (blkOk_by (by rfl)) (fun _ _ _ _ _ => (dg_name (i := 2) nd rfl (.inl rfl))) (fun _ _ _ _ _ => dts_nil) (fun _ _ _ _ _ => (de_c C_pick (hr.mono (by decide)) hgd (da_cons (dv 0) (da_cons (de_str (by rfl)) da_nil))))))) fun to te ho he => pe_join ho he)))
theorem g_stock {fword fdraw fpick : Addr} {dword ddraw dpick : FuncData} {f : Addr} {fd : FuncData} (U : L2.Fun K "_law_stock" "_law_stock" s_stock f fd) (C_word : Cal P w K mg base 3 "_law_word" fword dword ["_law_purse_here", "_law_size"] (Pur a g c) (f_word a)) (C_draw : Cal P w K mg base 1 "_law_draw" fdraw ddraw ["_law_purse_here", "_law_many"] (Pur a g c) (fDraw a)) (C_pick : Cal P w K mg base 2 "_law_pick" fpick dpick ["_law_purse_here", "_law_some"] (Pur a g c) (f_pick a)) (m_range : mg "range" = none) : FnG P w K mg base CX0 4 f fd ["_law_purse_here"] (spD K (Pur a g c) (f_stock a)) := by
  refine dfn_of (k := 3) U sc_stock l_stock fun cdv A outer s H E hr hgd => ⟨(t_stock a), ?_, m_stock⟩
  have nd := sc_stock.nd
  exact (dss_cons (ds_par3 (i := 1) (j := 2) (l := 3) (by rfl) nd rfl rfl rfl (by decide) (by decide) (by decide) rfl rfl rfl (da_cons (de_c C_draw (hr.mono (by decide)) hgd (da_cons (dv 0) (da_cons (de_bin op_Pow (DE.db de_int) (DE.db de_int)) da_nil))) (da_cons (de_c C_word (hr.mono (by decide)) hgd (da_cons (dv 0) (da_cons (de_bin op_Add (DE.db de_int) (DE.db (de_c C_draw (hr.mono (by decide)) hgd (da_cons (dv 0) (da_cons de_int da_nil))))) da_nil))) (da_cons (de_c C_word (hr.mono (by decide)) hgd (da_cons (dv 0) (da_cons de_int da_nil))) da_nil))) (by rfl))
  (dss_cons (ds_set (i := 4) nd rfl (.inr rfl) (DF.de (df_lst (da_cons (dv 1) (da_cons (de_bin op_Add (DE.db (dv 1)) (DE.db de_int)) (da_cons (de_neg (dv 1)) (da_cons (de_bin op_Sub (DE.db (de_neg (dv 1))) (DE.db de_int)) (da_cons (de_bin op_Pow (DE.db de_int) (DE.db de_int)) (da_cons (de_neg (de_bin op_Pow (DE.db de_int) (DE.db de_int))) (da_cons de_int (da_cons de_int (da_cons (de_c C_draw (hr.mono (by decide)) hgd (da_cons (dv 0) (da_cons de_int da_nil))) (da_cons (dv 2) (da_cons (de_bin op_Add (DE.db (dv 2)) (DE.db (dv 3))) da_nil))))))))))))))
  (dss_cons (ds_set (i := 4) nd rfl (.inr rfl) (DF.de (df_bin op_Cat (DE.db (dv 4)) (DE.db (DF.de (df_lst (da_cons (dv 3) (da_cons (de_bin op_MulS (DE.db (dv 3)) (DE.db de_int)) (da_cons (de_bin op_Add (DE.db (de_cut (dv 2) do_none (do_some (de_neg de_int)))) (DE.db (dv 3))) (da_cons (de_bin op_Add (DE.db (dv 2)) (DE.db (de_str (by rfl)))) (da_cons (de_cut (dv 2) do_none (do_some de_int)) da_nil)))))))))))
  (dss_one (ds_ret (DF.de (df_lc (own := [("_law_turn", 5)]) (B := (bNm 5)) (is := [5]) (by rfl) nd (di_range1 (by rfl) m_range (da_cons de_int da_nil)) (blkOk_by (by rfl)) (fun _ _ _ _ _ => (dg_name (i := 5) nd rfl (.inl rfl))) (fun _ _ _ _ _ => dts_nil) (fun _ _ _ _ _ => (de_c C_pick (hr.mono (by decide)) hgd (da_cons (dv 0) (da_cons (dv 4) da_nil)))))))))))
theorem g_lines {fpick fdraw : Addr} {dpick ddraw : FuncData} {f : Addr} {fd : FuncData} (U : L2.Fun K "_law_lines" "_law_lines" s_lines f fd) (C_pick : Cal P w K mg base 2 "_law_pick" fpick dpick ["_law_purse_here", "_law_some"] (Pur a g c) (f_pick a)) (C_draw : Cal P w K mg base 1 "_law_draw" fdraw ddraw ["_law_purse_here", "_law_many"] (Pur a g c) (fDraw a)) (m_len : mg "len" = none) (m_range : mg "range" = none) (m_tuple : mg "tuple" = none) : FnG P w K mg base CX0 3 f fd ["_law_purse_here", "_law_stock_here"] (spD K (Pur a g c) (f_lines a)) := by
  refine dfn_of (k := 2) U sc_lines l_lines fun cdv A outer s H E hr hgd => ⟨(t_lines a), ?_, m_lines⟩
  have nd := sc_lines.nd
  exact (dss_cons (ds_setO (i := 2) nd rfl (.inl rfl) (df_lst (da_cons (de_tup da_nil) da_nil)))
  (dss_cons (ds_for PassesOwn.never rfl (di_range1 (by rfl) m_range (da_cons de_int da_nil)) (dg_name (i := 3) nd rfl (.inl rfl))
  (dss_cons (ds_par (i := 4) (j := 5) (by rfl) nd rfl rfl (by decide) rfl rfl (da_cons (de_c C_draw (hr.mono (by decide)) hgd (da_cons (dv 0) (da_cons de_int da_nil))) (da_cons (DE.lock 2 (de_c C_pick (hr.mono (by decide)) hgd (da_cons (dv 0) (da_cons (dv 2) da_nil)))) da_nil)) (by rfl))
  (dss_one (ds_if (dt_cmp (op_Eq hr.units) (DE.db (dv 4)) (DE.db de_int) (nomark _))
  (dss_one (ds_app 2 (de_bin op_Add (DE.db (dv 5)) (DE.db (de_tup (da_cons (de_c C_pick (hr.mono (by decide)) hgd (da_cons (dv 0) (da_cons (dv 1) da_nil))) da_nil)))) fun t h => pe_bm PySem.F.plainAttrs_list PySem.F.slot_list_append PySem.F.type_list_append mt_append (pv 2) h))
  (dss_one (ds_if (dt_cmp (op_Eq hr.units) (DE.db (dv 4)) (DE.db de_int) (nomark _))
  (dss_one (ds_app 2 (de_cut (dv 5) do_none (do_some (de_c C_draw (hr.mono (by decide)) hgd (da_cons (dv 0) (da_cons (de_bin op_Add (DE.db (de_b call_Len (by rfl) m_len PySem.boot_len (dab_cons (DE.db (dv 5)) dab_nil))) (DE.db de_int)) da_nil))))) fun t h => pe_bm PySem.F.plainAttrs_list PySem.F.slot_list_append PySem.F.type_list_append mt_append (pv 2) h))
  (dss_one (ds_if (DW.dt (dw_and (dt_cmp (op_Eq hr.units) (DE.db (dv 4)) (DE.db de_int) (nomark _)) (dw_and1 (dt_cmp (op_Ne hr.units) (DE.db (dv 5)) (DE.db (de_tup da_nil)) (nomark _)))))
  (dss_cons (ds_set (i := 6) nd rfl (.inl rfl) (de_c C_draw (hr.mono (by decide)) hgd (da_cons (dv 0) (da_cons (de_b call_Len (by rfl) m_len PySem.boot_len (dab_cons (DE.db (dv 5)) dab_nil)) da_nil))))
  (dss_one (ds_app 2 (de_bin op_Add (DE.db (de_bin op_Add (DE.db (de_cut (dv 5) do_none (do_some (dv 6)))) (DE.db (de_tup (da_cons (de_c C_pick (hr.mono (by decide)) hgd (da_cons (dv 0) (da_cons (dv 1) da_nil))) da_nil))))) (DE.db (de_cut (dv 5) (do_some (de_bin op_Add (DE.db (dv 6)) (DE.db de_int))) do_none))) fun t h => pe_bm PySem.F.plainAttrs_list PySem.F.slot_list_append PySem.F.type_list_append mt_append (pv 2) h)))
  (dss_cons (ds_set (i := 7) nd rfl (.inl rfl) (de_c C_pick (hr.mono (by decide)) hgd (da_cons (dv 0) (da_cons (DF.de (df_lst (da_cons de_int (da_cons de_int (da_cons de_int (da_cons de_int (da_cons de_int da_nil))))))) da_nil))))
  (dss_one (ds_app 2 (de_bT call_Tuple (by rfl) m_tuple (by decide +kernel) (dab_cons (DE.db (DF.de (df_lc (own := [("_law_k", 8)]) (B := (bNm 8)) (is := [8]) (by rfl) nd (di_range1 (by rfl) m_range (da_cons (dv 7) da_nil)) (blkOk_by (by rfl)) (fun _ _ _ _ _ => (dg_name (i := 8) nd rfl (.inl rfl))) (fun _ _ _ _ _ => dts_nil) (fun _ _ _ _ _ => (de_c C_pick (hr.mono (by decide)) hgd (da_cons (dv 0) (da_cons (dv 1) da_nil))))))) dab_nil)) fun t h => pe_bm PySem.F.plainAttrs_list PySem.F.slot_list_append PySem.F.type_list_append mt_append (pv 2) h)))))))))))
  (dss_one (DS.frz 2 (ds_ret (dv 2))))))
theorem g_is_ahead {f : Addr} {fd : FuncData} (U : L2.Fun K "_law_is_ahead" "_law_is_ahead" s_is_ahead f fd) (m_int : mg "int" = none) (m_isinstance : mg "isinstance" = none) (m_len : mg "len" = none) (m_min : mg "min" = none) (m_ord : mg "ord" = none) (m_range : mg "range" = none) : FnG P w K mg base CX0 1 f fd ["_law_one", "_law_two"] (spD K (Pur a g c) f_is_ahead) := by
  refine dfn_of (k := 0) U sc_is_ahead l_is_ahead fun cdv A outer s H E hr hgd => ⟨t_is_ahead, ?_, m_is_ahead⟩
  have nd := sc_is_ahead.nd
  exact (dss_cons (ds_if (DW.dt (dw_or (dt_val (de_b call_Isa (by rfl) m_isinstance (by decide +kernel) (dab_cons (DE.db (dv 0)) (dab_cons (DE.db (de_ty (by rfl) m_int (by decide +kernel))) dab_nil)))) (dw_or1 (dt_val (de_b call_Isa (by rfl) m_isinstance (by decide +kernel) (dab_cons (DE.db (dv 1)) (dab_cons (DE.db (de_ty (by rfl) m_int (by decide +kernel))) dab_nil)))))))
  (dss_one (ds_ret (de_and (de_b call_Isa (by rfl) m_isinstance (by decide +kernel) (dab_cons (DE.db (dv 0)) (dab_cons (DE.db (de_ty (by rfl) m_int (by decide +kernel))) dab_nil))) (de_one (de_or (de_not (de_b call_Isa (by rfl) m_isinstance (by decide +kernel) (dab_cons (DE.db (dv 1)) (dab_cons (DE.db (de_ty (by rfl) m_int (by decide +kernel))) dab_nil)))) (de_one (de_cmp (op_Lt hr.units) (DE.db (dv 0)) (DE.db (dv 1)) (nomark _))))))))
  dss_nil)
  (dss_cons (ds_for PassesOwn.never rfl (di_range1 (by rfl) m_range (da_cons (de_b (call_Min (by rfl)) (by rfl) m_min (by decide +kernel) (dab_cons (DE.db (de_b call_Len (by rfl) m_len PySem.boot_len (dab_cons (DE.db (dv 0)) dab_nil))) (dab_cons (DE.db (de_b call_Len (by rfl) m_len PySem.boot_len (dab_cons (DE.db (dv 1)) dab_nil))) dab_nil))) da_nil)) (dg_name (i := 2) nd rfl (.inl rfl))
  (dss_one (ds_if (dt_cmp (op_Ne hr.units) (DE.db (de_ix (DE.db (dv 0)) (dv 2) (fun _ _ => rfl))) (DE.db (de_ix (DE.db (dv 1)) (dv 2) (fun _ _ => rfl))) (nomark _))
  (dss_one (ds_ret (de_cmp (op_Lt hr.units) (DE.db (de_b call_Ord (by rfl) m_ord (by decide +kernel) (dab_cons (DE.db (de_ix (DE.db (dv 0)) (dv 2) (fun _ _ => rfl))) dab_nil))) (DE.db (de_b call_Ord (by rfl) m_ord (by decide +kernel) (dab_cons (DE.db (de_ix (DE.db (dv 1)) (dv 2) (fun _ _ => rfl))) dab_nil))) (nomark _))))
  dss_nil)))
  (dss_one (ds_ret (de_cmp (op_Lt hr.units) (DE.db (de_b call_Len (by rfl) m_len PySem.boot_len (dab_cons (DE.db (dv 0)) dab_nil))) (DE.db (de_b call_Len (by rfl) m_len PySem.boot_len (dab_cons (DE.db (dv 1)) dab_nil))) (nomark _))))))
theorem g_is_row_ahead {fis_ahead : Addr} {dis_ahead : FuncData} {f : Addr} {fd : FuncData} (U : L2.Fun K "_law_is_row_ahead" "_law_is_row_ahead" s_is_row_ahead f fd) (C_is_ahead : Cal P w K mg base 1 "_law_is_ahead" fis_ahead dis_ahead ["_law_one", "_law_two"] (Pur a g c) f_is_ahead) (m_len : mg "len" = none) (m_min : mg "min" = none) (m_range : mg "range" = none) : FnG P w K mg base CX0 2 f fd ["_law_one", "_law_two"] (spD K (Pur a g c) f_is_row_ahead) := by
  refine dfn_of (k := 1) U sc_is_row_ahead l_is_row_ahead fun cdv A outer s H E hr hgd => ⟨t_is_row_ahead, ?_, m_is_row_ahead⟩
  have nd := sc_is_row_ahead.nd
  exact (dss_cons (ds_for PassesOwn.never rfl (di_range1 (by rfl) m_range (da_cons (de_b (call_Min (by rfl)) (by rfl) m_min (by decide +kernel) (dab_cons (DE.db (de_b call_Len (by rfl) m_len PySem.boot_len (dab_cons (DE.db (dv 0)) dab_nil))) (dab_cons (DE.db (de_b call_Len (by rfl) m_len PySem.boot_len (dab_cons (DE.db (dv 1)) dab_nil))) dab_nil))) da_nil)) (dg_name (i := 2) nd rfl (.inl rfl))
  (dss_one (ds_if (dt_cmp (op_Ne hr.units) (DE.db (de_ix (DE.db (dv 0)) (dv 2) (fun _ _ => rfl))) (DE.db (de_ix (DE.db (dv 1)) (dv 2) (fun _ _ => rfl))) (nomark _))
  (dss_one (ds_ret (de_c C_is_ahead (hr.mono (by decide)) hgd (da_cons (de_ix (DE.db (dv 0)) (dv 2) (fun _ _ => rfl)) (da_cons (de_ix (DE.db (dv 1)) (dv 2) (fun _ _ => rfl)) da_nil)))))
  dss_nil)))
  (dss_one (ds_ret (de_cmp (op_Lt hr.units) (DE.db (de_b call_Len (by rfl) m_len PySem.boot_len (dab_cons (DE.db (dv 0)) dab_nil))) (DE.db (de_b call_Len (by rfl) m_len PySem.boot_len (dab_cons (DE.db (dv 1)) dab_nil))) (nomark _)))))
theorem g_in_order {fis_row_ahead : Addr} {dis_row_ahead : FuncData} {f : Addr} {fd : FuncData} (U : L2.Fun K "_law_in_order" "_law_in_order" s_in_order f fd) (C_is_row_ahead : Cal P w K mg base 2 "_law_is_row_ahead" fis_row_ahead dis_row_ahead ["_law_one", "_law_two"] (Pur a g c) f_is_row_ahead) (m_len : mg "len" = none) : FnG P w K mg base CX0 3 f fd ["_law_lines_here"] (spD K (Pur a g c) f_in_order) := by
  refine dfn_of (k := 2) U sc_in_order l_in_order fun cdv A outer s H E hr hgd => ⟨t_in_order, ?_, m_in_order⟩
  have nd := sc_in_order.nd
  exact (dss_cons (ds_setO (i := 1) nd rfl (.inl rfl) (df_lst da_nil))
  (dss_cons (ds_for PassesOwn.never rfl (di_list (dv 0)) (dg_name (i := 2) nd rfl (.inr rfl))
  (dss_one (ds_ins 1 (DE.lock 1 (de_b call_Len (by rfl) m_len PySem.boot_len (dab_cons (DE.db (DF.de (df_lc (own := [("_law_one", 3)]) (B := (bNm 3)) (is := [3]) (by rfl) nd (di_list (dv 1)) (blkOk_by (by rfl)) (fun _ _ _ _ _ => (dg_name (i := 3) nd rfl (.inl rfl))) (fun _ _ _ _ _ => (dts_one (dt_not (dt_val (de_c C_is_row_ahead (hr.mono (by decide)) hgd (da_cons (dv 2) (da_cons (dv 3) da_nil))))))) (fun _ _ _ _ _ => (dv 3))))) dab_nil))) (dv 2) fun t h => pe_bm PySem.F.plainAttrs_list PySem.F.slot_list_insert PySem.F.type_list_insert mt_insert (pv 1) h)))
  (dss_one (DS.frz 1 (ds_ret (dv 1))))))
theorem g_pair {f : Addr} {fd : FuncData} (U : L2.Fun K "_law_pair" "_law_pair" s_pair f fd) (m_int : mg "int" = none) (m_isinstance : mg "isinstance" = none) : FnG P w K mg base CX0 1 f fd ["_law_thing"] (spD K (Pur a g c) f_pair) := by
  refine dfn_of (k := 0) U sc_pair l_pair fun cdv A outer s H E hr hgd => ⟨t_pair, ?_, m_pair⟩
  have nd := sc_pair.nd
  exact (dss_one (ds_ret (de_if (dt_val (de_b call_Isa (by rfl) m_isinstance (by decide +kernel) (dab_cons (DE.db (dv 0)) (dab_cons (DE.db (de_ty (by rfl) m_int (by decide +kernel))) dab_nil)))) (de_tup (da_cons de_int (da_cons (dv 0) da_nil))) (de_tup (da_cons de_int (da_cons (dv 0) da_nil))))))
theorem g_are_values_told {fvalue_rank fpair fis_ahead fin_order : Addr} {dvalue_rank dpair dis_ahead din_order : FuncData} {f : Addr} {fd : FuncData} (U : L2.Fun K "_law_are_values_told" "_law_are_values_told" s_are_values_told f fd) (C_value_rank : Cal P w K mg base 1 "value_rank" fvalue_rank dvalue_rank ["value"] (Pur a g c) f_value_rank) (C_pair : Cal P w K mg base 1 "_law_pair" fpair dpair ["_law_thing"] (Pur a g c) f_pair) (C_is_ahead : Cal P w K mg base 1 "_law_is_ahead" fis_ahead dis_ahead ["_law_one", "_law_two"] (Pur a g c) f_is_ahead) (C_in_order : Cal P w K mg base 3 "_law_in_order" fin_order din_order ["_law_lines_here"] (Pur a g c) f_in_order) (k_value_rank_0_value : KBd K dvalue_rank ["value"] 0 ["value"]) (m_enumerate : mg "enumerate" = none) (m_repr : mg "repr" = none) (m_sorted : mg "sorted" = none) : FnG P w K mg base CX0 4 f fd ["_law_stock_here"] (spD K (Pur a g c) f_are_values_told) := by
  refine dfn_of (k := 3) U sc_are_values_told l_are_values_told fun cdv A outer s H E hr hgd => ⟨t_are_values_told, ?_, m_are_values_told⟩
  have nd := sc_are_values_told.nd
  exact (dss_cons (ds_for PassesOwn.never rfl (di_list (dv 0)) (dg_name (i := 1) nd rfl (.inl rfl))
  (dss_cons (ds_if (dt_cmp (op_Ne hr.units) (DE.db (de_b (call_Repr hgd hr.units) (by rfl) m_repr (by decide +kernel) (dab_cons (DE.db (DF.de (df_lst (da_cons (de_c C_value_rank (hr.mono (by decide)) hgd (da_cons (dv 1) da_nil)) (da_cons (de_ck0 (ks := ["value"]) C_value_rank k_value_rank_0_value (hr.mono (by decide)) hgd (dk_cons (dv 1) dk_nil)) da_nil))))) dab_nil))) (DE.db (de_b (call_Repr hgd hr.units) (by rfl) m_repr (by decide +kernel) (dab_cons (DE.db (DF.de (df_mulL (df_lst (da_cons (de_c C_pair (hr.mono (by decide)) hgd (da_cons (dv 1) da_nil)) da_nil)) de_int))) dab_nil))) (nomark _))
  (dss_one (ds_ret de_bl))
  dss_nil)
  (dss_one (ds_for PassesOwn.never rfl (di_list (dv 0)) (dg_name (i := 2) nd rfl (.inl rfl))
  (dss_cons (ds_set (i := 3) nd rfl (.inl rfl) (DF.de (df_lst (da_cons (de_c C_value_rank (hr.mono (by decide)) hgd (da_cons (dv 1) da_nil)) (da_cons (de_c C_value_rank (hr.mono (by decide)) hgd (da_cons (dv 2) da_nil)) da_nil)))))
  (dss_cons (ds_if (dt_cmp (op_Ne hr.units) (DE.db (de_cmp (op_Lt hr.units) (DE.db (de_ix (DE.db (dv 3)) de_int (fun _ _ => rfl))) (DE.db (de_ix (DE.db (dv 3)) de_int (fun _ _ => rfl))) (nomark _))) (DE.db (de_c C_is_ahead (hr.mono (by decide)) hgd (da_cons (dv 1) (da_cons (dv 2) da_nil)))) (nomark _))
  (dss_one (ds_ret de_bl))
  dss_nil)
  (dss_one (ds_if (dt_cmp (op_Ne hr.units) (DE.db (de_cmp (op_Eq hr.units) (DE.db (de_ix (DE.db (dv 3)) de_int (fun _ _ => rfl))) (DE.db (de_ix (DE.db (dv 3)) de_int (fun _ _ => rfl))) (nomark _))) (DE.db (de_cmp (op_Eq hr.units) (DE.db (de_b (call_Repr hgd hr.units) (by rfl) m_repr (by decide +kernel) (dab_cons (DE.db (dv 1)) dab_nil))) (DE.db (de_b (call_Repr hgd hr.units) (by rfl) m_repr (by decide +kernel) (dab_cons (DE.db (dv 2)) dab_nil))) (nomark _))) (nomark _))
  (dss_one (ds_ret de_bl))
  dss_nil))))))))
  (dss_cons (ds_set (i := 4) nd rfl (.inl rfl) (DF.de (df_b (call_Sorted hr.units) (by rfl) m_sorted (by decide +kernel) (dab_cons (DE.db (DF.de (df_lc (own := [("_law_at", 6), ("_law_thing", 7)]) (B := (bTup [(bNm 6), (bNm 7)])) (is := [6, 7]) (by rfl) nd (di_enum (by rfl) m_enumerate (da_cons (dv 0) da_nil)) (blkOk_by (by rfl)) (fun _ _ _ _ _ => (dg_tup (by rfl) (dgs_cons (dg_name (i := 6) nd rfl (.inl rfl)) (dgs_cons (dg_name (i := 7) nd rfl (.inl rfl)) dgs_nil)))) (fun _ _ _ _ _ => dts_nil) (fun _ _ _ _ _ => (de_tup (da_cons (de_c C_value_rank (hr.mono (by decide)) hgd (da_cons (dv 7) da_nil)) (da_cons (dv 6) da_nil))))))) dab_nil))))
  (dss_cons (ds_set (i := 5) nd rfl (.inl rfl) (de_c C_in_order (hr.mono (by decide)) hgd (da_cons (DF.de (df_lc (own := [("_law_thing", 7)]) (B := (bNm 7)) (is := [7]) (by rfl) nd (di_list (dv 0)) (blkOk_by (by rfl)) (fun _ _ _ _ _ => (dg_name (i := 7) nd rfl (.inl rfl))) (fun _ _ _ _ _ => dts_nil) (fun _ _ _ _ _ => (de_tup (da_cons (dv 7) da_nil))))) da_nil)))
  (dss_one (ds_ret (de_cmp (op_Eq hr.units) (DE.db (de_b (call_Repr hgd hr.units) (by rfl) m_repr (by decide +kernel) (dab_cons (DE.db (DF.de (df_lc (own := [("_law_pair_here", 8)]) (B := (bNm 8)) (is := [8]) (by rfl) nd (di_list (dv 4)) (blkOk_by (by rfl)) (fun _ _ _ _ _ => (dg_name (i := 8) nd rfl (.inl rfl))) (fun _ _ _ _ _ => dts_nil) (fun _ _ _ _ _ => (de_ix (DE.db (dv 0)) (de_ix (DE.db (dv 8)) de_int (fun _ _ => rfl)) (fun _ _ => rfl)))))) dab_nil))) (DE.db (de_b (call_Repr hgd hr.units) (by rfl) m_repr (by decide +kernel) (dab_cons (DE.db (DF.de (df_lc (own := [("_law_line", 9)]) (B := (bNm 9)) (is := [9]) (by rfl) nd (di_list (dv 5)) (blkOk_by (by rfl)) (fun _ _ _ _ _ => (dg_name (i := 9) nd rfl (.inl rfl))) (fun _ _ _ _ _ => dts_nil) (fun _ _ _ _ _ => (de_ix (DE.db (dv 9)) de_int (fun _ _ => rfl)))))) dab_nil))) (nomark _)))))))
theorem g_are_rows_told {fpair frow_rank fis_row_ahead fin_order : Addr} {dpair drow_rank dis_row_ahead din_order : FuncData} {f : Addr} {fd : FuncData} (U : L2.Fun K "_law_are_rows_told" "_law_are_rows_told" s_are_rows_told f fd) (C_pair : Cal P w K mg base 1 "_law_pair" fpair dpair ["_law_thing"] (Pur a g c) f_pair) (C_row_rank : Cal P w K mg base 2 "row_rank" frow_rank drow_rank ["row"] (Pur a g c) f_row_rank) (C_is_row_ahead : Cal P w K mg base 2 "_law_is_row_ahead" fis_row_ahead dis_row_ahead ["_law_one", "_law_two"] (Pur a g c) f_is_row_ahead) (C_in_order : Cal P w K mg base 3 "_law_in_order" fin_order din_order ["_law_lines_here"] (Pur a g c) f_in_order) (k_row_rank_0_row : KBd K drow_rank ["row"] 0 ["row"]) (m_enumerate : mg "enumerate" = none) (m_repr : mg "repr" = none) (m_sorted : mg "sorted" = none) (m_tuple : mg "tuple" = none) : FnG P w K mg base CX0 4 f fd ["_law_lines_here"] (spD K (Pur a g c) f_are_rows_told) := by
  refine dfn_of (k := 3) U sc_are_rows_told l_are_rows_told fun cdv A outer s H E hr hgd => ⟨t_are_rows_told, ?_, m_are_rows_told⟩
  have nd := sc_are_rows_told.nd
  exact (dss_cons (ds_for PassesOwn.never rfl (di_list (dv 0)) (dg_name (i := 1) nd rfl (.inl rfl))
  (dss_cons (ds_set (i := 2) nd rfl (.inl rfl) (de_bT call_Tuple (by rfl) m_tuple (by decide +kernel) (dab_cons (DE.db (DF.de (df_lc (own := [("_law_thing", 10)]) (B := (bNm 10)) (is := [10]) (by rfl) nd (di_tup (dv 1)) (blkOk_by (by rfl)) (fun _ _ _ _ _ => (dg_name (i := 10) nd rfl (.inl rfl))) (fun _ _ _ _ _ => dts_nil) (fun _ _ _ _ _ => (de_c C_pair (hr.mono (by decide)) hgd (da_cons (dv 10) da_nil)))))) dab_nil)))
  (dss_one (ds_if (dt_cmp (op_Ne hr.units) (DE.db (de_b (call_Repr hgd hr.units) (by rfl) m_repr (by decide +kernel) (dab_cons (DE.db (DF.de (df_lst (da_cons (de_c C_row_rank (hr.mono (by decide)) hgd (da_cons (dv 1) da_nil)) (da_cons (de_ck0 (ks := ["row"]) C_row_rank k_row_rank_0_row (hr.mono (by decide)) hgd (dk_cons (dv 1) dk_nil)) (da_cons (de_c C_row_rank (hr.mono (by decide)) hgd (da_cons (dv 1) da_nil)) da_nil)))))) dab_nil))) (DE.db (de_b (call_Repr hgd hr.units) (by rfl) m_repr (by decide +kernel) (dab_cons (DE.db (DF.de (df_mulL (df_lst (da_cons (dv 2) da_nil)) de_int))) dab_nil))) (nomark _))
  (dss_one (ds_ret de_bl))
  dss_nil))))
  (dss_cons (DS.setF (ds_setLcO (i := 3) (own := [("_law_one", 1)]) (B := (bNm 1)) (is := [1]) (by rfl) nd rfl rfl (sw_true rfl rfl rfl (by decide +kernel)) (di_list (dv 0)) (blkOk_by (by rfl)) (fun _ _ _ _ _ => (dg_name (i := 1) nd rfl (.inl rfl))) (fun _ _ _ _ _ => dts_nil) (fun _ _ _ _ _ => (de_c C_row_rank (hr.mono (by decide)) hgd (da_cons (dv 1) da_nil)))) (by exact (by decide : 3 < 12)))
  (dss_cons (ds_for PassesOwn.never rfl (di_enum (by rfl) m_enumerate (da_cons (dv 0) da_nil)) (dg_tup (by rfl) (dgs_cons (dg_name (i := 4) nd rfl (.inl rfl)) (dgs_cons (dg_name (i := 1) nd rfl (.inl rfl)) dgs_nil)))
  (dss_one (ds_for PassesOwn.never rfl (di_enum (by rfl) m_enumerate (da_cons (dv 0) da_nil)) (dg_tup (by rfl) (dgs_cons (dg_name (i := 5) nd rfl (.inl rfl)) (dgs_cons (dg_name (i := 6) nd rfl (.inl rfl)) dgs_nil)))
  (dss_cons (ds_if (dt_cmp (op_Ne hr.units) (DE.db (de_cmp (op_Lt hr.units) (DE.db (de_ix (DE.db (dv 3)) (dv 4) (fun _ _ => rfl))) (DE.db (de_ix (DE.db (dv 3)) (dv 5) (fun _ _ => rfl))) (nomark _))) (DE.db (de_c C_is_row_ahead (hr.mono (by decide)) hgd (da_cons (dv 1) (da_cons (dv 6) da_nil)))) (nomark _))
  (dss_one (ds_ret de_bl))
  dss_nil)
  (dss_one (ds_if (dt_cmp (op_Ne hr.units) (DE.db (de_cmp (op_Eq hr.units) (DE.db (de_ix (DE.db (dv 3)) (dv 4) (fun _ _ => rfl))) (DE.db (de_ix (DE.db (dv 3)) (dv 5) (fun _ _ => rfl))) (nomark _))) (DE.db (de_cmp (op_Eq hr.units) (DE.db (de_b (call_Repr hgd hr.units) (by rfl) m_repr (by decide +kernel) (dab_cons (DE.db (dv 1)) dab_nil))) (DE.db (de_b (call_Repr hgd hr.units) (by rfl) m_repr (by decide +kernel) (dab_cons (DE.db (dv 6)) dab_nil))) (nomark _))) (nomark _))
  (dss_one (ds_ret de_bl))
  dss_nil))))))
  (dss_cons (ds_set (i := 7) nd rfl (.inl rfl) (DF.de (df_b (call_Sorted hr.units) (by rfl) m_sorted (by decide +kernel) (dab_cons (DE.db (DF.de (df_lc (own := [("_law_spot", 8), ("_law_rank", 9)]) (B := (bTup [(bNm 8), (bNm 9)])) (is := [8, 9]) (by rfl) nd (di_enum (by rfl) m_enumerate (da_cons (dv 3) da_nil)) (blkOk_by (by rfl)) (fun _ _ _ _ _ => (dg_tup (by rfl) (dgs_cons (dg_name (i := 8) nd rfl (.inl rfl)) (dgs_cons (dg_name (i := 9) nd rfl (.inl rfl)) dgs_nil)))) (fun _ _ _ _ _ => dts_nil) (fun _ _ _ _ _ => (de_tup (da_cons (dv 9) (da_cons (dv 8) da_nil))))))) dab_nil))))
  (dss_one (ds_ret (de_cmp (op_Eq hr.units) (DE.db (de_b (call_Repr hgd hr.units) (by rfl) m_repr (by decide +kernel) (dab_cons (DE.db (DF.de (df_lc (own := [("_law_pair_here", 11)]) (B := (bNm 11)) (is := [11]) (by rfl) nd (di_list (dv 7)) (blkOk_by (by rfl)) (fun _ _ _ _ _ => (dg_name (i := 11) nd rfl (.inl rfl))) (fun _ _ _ _ _ => dts_nil) (fun _ _ _ _ _ => (de_ix (DE.db (dv 0)) (de_ix (DE.db (dv 11)) de_int (fun _ _ => rfl)) (fun _ _ => rfl)))))) dab_nil))) (DE.db (de_b (call_Repr hgd hr.units) (by rfl) m_repr (by decide +kernel) (dab_cons (DE.db (de_c C_in_order (hr.mono (by decide)) hgd (da_cons (dv 0) da_nil))) dab_nil))) (nomark _))))))))
end
end K02

namespace K02
open PySem PySem.Spec PyProof.Rows L2 DL
def t_law (a : Addr) : XS :=
  (dSeq (dFor (iRg1 (dCons (dC (.int 4)) dNil)) (bNm 2)
  (dSeq (dSet 3 (dCall (f_stock a) (dCons (dV 1) dNil)))
  (dIfS (dOr (dNot (dTst (dCall f_are_values_told (dCons (dV 3) dNil)))) (dNot (dTst (dCall f_are_rows_told (dCons (dCall (f_lines a) (dCons (dV 1) (dCons (dV 3) dNil))) dNil)))))
  (dRet (dC (.bl false)))
  dNext)))
  (dSeq (dSet 4 (dFz (dLst (dCons (dBin oPow (dC (.int 10)) (dC (.int 9))) (dCons (dC (.str [97])) (dCons (dUn oNeg (dBin oPow (dC (.int 10)) (dC (.int 9)))) (dCons (dC (.str [122, 122, 122, 122, 122, 122, 122, 122, 122, 122, 122, 122])) (dCons (dC (.int 0)) (dCons (dC (.str [122, 122])) (dCons (dUn oNeg (dC (.int 1))) (dCons (dC (.str [97, 97])) (dCons (dC (.int 9)) (dCons (dC (.int 10)) (dCons (dC (.str [98])) (dCons (dC (.str [122])) dNil)))))))))))))))
  (dSeq (dSet 5 (dFz (dLst (dCons (dTup (dCons (dC (.str [98, 111])) dNil)) (dCons (dTup (dCons (dC (.int 3)) (dCons (dC (.str [97])) dNil))) (dCons (dTup (dCons (dC (.int 3)) dNil)) (dCons (dTup (dCons (dUn oNeg (dC (.int 7))) (dCons (dC (.int 9)) dNil))) (dCons (dTup dNil) (dCons (dTup (dCons (dC (.str [97])) (dCons (dC (.int 3)) dNil))) (dCons (dTup (dCons (dC (.str [97])) dNil)) (dCons (dTup (dCons (dC (.int 3)) (dCons (dC (.str [97])) (dCons (dC (.int 0)) dNil)))) (dCons (dTup (dCons (dUn oNeg (dC (.int 7))) (dCons (dC (.int 10)) dNil))) (dCons (dTup (dCons (dC (.str [97, 98])) dNil)) (dCons (dTup (dCons (dC (.int 3)) (dCons (dBin oPow (dC (.int 10)) (dC (.int 9))) dNil))) dNil))))))))))))))
  (dRet (dAndV (dCall f_are_values_told (dCons (dV 4) dNil)) (dCall f_are_rows_told (dCons (dV 5) dNil)))))))
theorem m_law {a : Addr} (ns : List D) (y : Sv) (Q : D → Prop) (q : Q (.bl true)) : t_law a { nx := fun _ => False, rt := Q } ([.val (.lst ns), .val (.raw (.ref a))] ++ List.replicate 4 .no) := by
  refine ⟨4, rfl, by decide, by decide, ?_⟩
  refine forGo_inv (fun p ρ => ∃ y2 y3, ρ = [.val (.lst ns), .val (.raw (.ref a)), y2, y3, .no, .no]) [] ⟨_, _, rfl⟩ (fun p d r ρ G e hw k => ?_) fun ρ hw => ?_
  · obtain ⟨y2, y3, rfl⟩ := hw
    refine ⟨_, rfl, rfl, fun xs hl hv => ⟨_, rfl, xs, rfl, by omega, hv, _, rfl, ?_⟩⟩
    refine iteF ⟨_, rfl, _, rfl, xs, rfl, (by intro z; rw [z] at hl; cases hl), by omega, hv, fun rs h1 h2 => ⟨rs, rfl, h1, h2, _, rfl, ?_⟩⟩
    exact iteF (k _ ⟨_, _, rfl⟩)
  · obtain ⟨y2, y3, rfl⟩ := hw
    refine ⟨⟨by decide, by decide, by decide⟩, ⟨by decide, by decide, by decide⟩, Nat.le_of_ble_eq_true rfl, ?_⟩
    have l0 : ∀ {n : Nat}, Nat.ble n 1000 = true → n ≤ 1000 := fun h => Nat.le_of_ble_eq_true h
    refine ⟨l0 rfl, l0 rfl, l0 rfl, l0 rfl, l0 rfl, l0 rfl, l0 rfl, l0 rfl, l0 rfl, l0 rfl, ⟨by decide, by decide, by decide⟩, l0 rfl, l0 rfl, ?_⟩
    refine ⟨_, rfl, _, rfl, Nat.le_of_ble_eq_true rfl, fun x hx => ?_, true, rfl, iteT ⟨_, rfl, _, rfl, Nat.le_of_ble_eq_true rfl, fun r hr => ?_, q⟩⟩
    · simp only [List.mem_cons, List.not_mem_nil, or_false] at hx
      rcases hx with rfl | rfl | rfl | rfl | rfl | rfl | rfl | rfl | rfl | rfl | rfl | rfl <;> first | exact ⟨by decide, by decide⟩ | exact ⟨by decide, by unfold low; decide⟩
    · have vi : ∀ {i : Int}, -1000000000000 ≤ i → i ≤ 1000000000000 → Val (.int i) := fun h1 h2 => ⟨h1, h2⟩
      have vs : ∀ {z : List Nat}, z.length ≤ 14 → low z → Val (.str z) := fun h1 h2 => ⟨h1, h2⟩
      have va : Val (.str [97]) := vs (by decide) (by unfold low; decide)
      have v3 : Val (.int 3) := vi (by decide) (by decide)
      have v7 : Val (.int (-7)) := vi (by decide) (by decide)
      have two : ∀ {x y : D}, Val x → Val y → Row (.tup [x, y]) := fun h1 h2 => ⟨Nat.le_of_ble_eq_true rfl, fun z hz => by
        simp only [List.mem_cons, List.not_mem_nil, or_false] at hz
        rcases hz with rfl | rfl
        · exact h1
        · exact h2⟩
      have one : ∀ {x : D}, Val x → Row (.tup [x]) := fun h1 => ⟨Nat.le_of_ble_eq_true rfl, vals_one h1⟩
      simp only [List.mem_cons, List.not_mem_nil, or_false] at hr
      rcases hr with rfl | rfl | rfl | rfl | rfl | rfl | rfl | rfl | rfl | rfl | rfl
      · exact one (vs (by decide) (by unfold low; decide))
      · exact two v3 va
      · exact one v3
      · exact two v7 (vi (by decide) (by decide))
      · exact ⟨by decide, fun x hx => nomatch hx⟩
      · exact two va v3
      · exact one va
      · refine ⟨Nat.le_of_ble_eq_true rfl, fun z hz => ?_⟩
        simp only [List.mem_cons, List.not_mem_nil, or_false] at hz
        rcases hz with rfl | rfl | rfl
        · exact v3
        · exact va
        · exact vi (by decide) (by decide)
      · exact two v7 (vi (by decide) (by decide))
      · exact one (vs (by decide) (by unfold low; decide))
      · exact two v3 (vi (by decide) (by decide))
end K02

namespace K02
open PySem PySem.Spec PyProof.Rows L2 DL
abbrev s_law : Stmt := topS 16
theorem sc_law : FnScope ["_law_script", "_law_purse_here", "_law_turn", "_law_stock_here", "_law_edges", "_law_lines_here"] ["_law_script"] (defScope s_law) := ⟨rfl, rfl, rfl, by decide +kernel, rfl, by decide +kernel, by decide +kernel⟩
section
variable {P : Program} {w : World} {K : PySem.W.Frag} {mg : Str → Option Value} {base : Heap}
def spLaw (K : PySem.W.Frag) : Sp := fun vs H Q _ => ∃ ns : List Int, RepL K H vs [.lst (ns.map D.int)] ∧ ns.length ≤ 1000 ∧ ∀ H', Q (.bl true) H'
set_option maxHeartbeats 400000 in
theorem g_law {fpurse fstock fare_values_told fare_rows_told flines : Addr} {dpurse dstock dare_values_told dare_rows_told dlines : FuncData} {f : Addr} {fd : FuncData} (U : L2.Fun K "law" "law" s_law f fd) (Gp : FnG P w K mg base CX0 1 fpurse dpurse ["_law_script"] (spPur K)) (gp : mg "_law_purse" = some (.ref fpurse)) (kp : PySem.W.keepIn K (.ref fpurse) = true) (bp : Binds K dpurse ["_law_script"] [])
    (C_stock : ∀ a g c : Addr, Cal P w K mg base 4 "_law_stock" fstock dstock ["_law_purse_here"] (Pur a g c) (f_stock a))
    (C_are_values_told : ∀ a g c : Addr, Cal P w K mg base 4 "_law_are_values_told" fare_values_told dare_values_told ["_law_stock_here"] (Pur a g c) f_are_values_told)
    (C_are_rows_told : ∀ a g c : Addr, Cal P w K mg base 4 "_law_are_rows_told" fare_rows_told dare_rows_told ["_law_lines_here"] (Pur a g c) f_are_rows_told)
    (C_lines : ∀ a g c : Addr, Cal P w K mg base 3 "_law_lines" flines dlines ["_law_purse_here", "_law_stock_here"] (Pur a g c) (f_lines a)) (m_range : mg "range" = none) :
    FnG P w K mg base CX0 5 f fd ["_law_script"] (spLaw K) := by
  obtain ⟨oc, od, kV, doc, pm, an, cdv, ct, osl, rfl, lk, hcd⟩ := U.ex
  refine fng_of (k := 4) lk hcd sc_law (fun vs H Q E ⟨ns, r, _⟩ => r.length) fun A outer s H vs Q E hr hgd ⟨ns, r, hl, q⟩ => ?_
  have nd := sc_law.nd
  refine ⟨_, (pss_cons (ps_set (i := 1) nd rfl (.inl rfl) (pe_callG Gp (hr.mono (by decide)) hgd (by rfl) gp kp bp .nil pass0 (pa_cons (pv 0) pa_nil))) (ps_pur t_law fun a g c => (dss_cons (ds_for PassesOwn.never rfl (di_range1 (by rfl) m_range (da_cons de_int da_nil)) (dg_name (i := 2) nd rfl (.inl rfl))
  (dss_cons (ds_set (i := 3) nd rfl (.inl rfl) (de_c (C_stock a g c) (hr.mono (by decide)) hgd (da_cons (dv 1) da_nil)))
  (dss_one (ds_if (DW.dt (dw_or (dt_not (dt_val (de_c (C_are_values_told a g c) (hr.mono (by decide)) hgd (da_cons (dv 3) da_nil)))) (dw_or1 (dt_not (dt_val (de_c (C_are_rows_told a g c) (hr.mono (by decide)) hgd (da_cons (de_c (C_lines a g c) (hr.mono (by decide)) hgd (da_cons (dv 1) (da_cons (dv 3) da_nil))) da_nil)))))))
  (dss_one (ds_ret de_bl))
  dss_nil))))
  (dss_cons (ds_set (i := 4) nd rfl (.inl rfl) (DF.de (df_lst (da_cons (de_bin op_Pow (DE.db de_int) (DE.db de_int)) (da_cons (de_str (by rfl)) (da_cons (de_neg (de_bin op_Pow (DE.db de_int) (DE.db de_int))) (da_cons (de_str (by rfl)) (da_cons de_int (da_cons (de_str (by rfl)) (da_cons (de_neg de_int) (da_cons (de_str (by rfl)) (da_cons de_int (da_cons de_int (da_cons (de_str (by rfl)) (da_cons (de_str (by rfl)) da_nil)))))))))))))))
  (dss_cons (ds_set (i := 5) nd rfl (.inl rfl) (DF.de (df_lst (da_cons (de_tup (da_cons (de_str (by rfl)) da_nil)) (da_cons (de_tup (da_cons de_int (da_cons (de_str (by rfl)) da_nil))) (da_cons (de_tup (da_cons de_int da_nil)) (da_cons (de_tup (da_cons (de_neg de_int) (da_cons de_int da_nil))) (da_cons (de_tup da_nil) (da_cons (de_tup (da_cons (de_str (by rfl)) (da_cons de_int da_nil))) (da_cons (de_tup (da_cons (de_str (by rfl)) da_nil)) (da_cons (de_tup (da_cons de_int (da_cons (de_str (by rfl)) (da_cons de_int da_nil)))) (da_cons (de_tup (da_cons (de_neg de_int) (da_cons de_int da_nil))) (da_cons (de_tup (da_cons (de_str (by rfl)) da_nil)) (da_cons (de_tup (da_cons de_int (da_cons (de_bin op_Pow (DE.db de_int) (DE.db de_int)) da_nil))) da_nil))))))))))))))
  (dss_one (ds_ret (de_and (de_c (C_are_values_told a g c) (hr.mono (by decide)) hgd (da_cons (dv 4) da_nil)) (de_one (de_c (C_are_rows_told a g c) (hr.mono (by decide)) hgd (da_cons (dv 5) da_nil))))))))))).nox, ?_⟩
  obtain ⟨v0, vs', rfl, r0⟩ : ∃ v0 vs', vs = v0 :: vs' ∧ Rep K H v0 (.lst (ns.map D.int)) ∧ vs' = [] := by
    cases r with
    | cons r1 rr => cases rr; exact ⟨_, _, rfl, r1, rfl⟩
  obtain ⟨r0, rfl⟩ := r0
  refine ⟨v0, rfl, ns, .cons r0 .nil, hl, fun a g c H1 g1 i1 => ?_⟩
  have hT := m_law (a := a) (ns.map D.int) .no (fun d => d = .bl true) rfl
  refine ⟨a, g, c, H1, _, _, i1, Go.refl H1, ?_, hT, ?_, ?_, ?_, ?_⟩
  rotate_left
  · rintro _ _ ⟨_, _, _, _, z⟩; exact (show False from z).elim
  · rintro v H2 ⟨_, d, rd, ed⟩
    have ed : d = .bl true := ed
    subst ed
    cases rd
    exact q H2
  · rintro _ _ ⟨_, _, _, _, z⟩; exact (show False from z).elim
  · rintro _ _ ⟨_, _, _, _, z⟩; exact (show False from z).elim
  · have x1 := g1.ext (R := Res.nil) trivial
    have sl0 : Sl K H H1 (start ["_law_script", "_law_purse_here", "_law_turn", "_law_stock_here", "_law_edges", "_law_lines_here"] [v0]) (st0 6 [.lst (ns.map D.int)]) := (sl_start (N := ["_law_script", "_law_purse_here", "_law_turn", "_law_stock_here", "_law_edges", "_law_lines_here"]) (RepL.cons r0 .nil)).go (R := Res.nil) trivial trivial g1
    have sl1 : Sl K H1 H1 (start ["_law_script", "_law_purse_here", "_law_turn", "_law_stock_here", "_law_edges", "_law_lines_here"] [v0]) (st0 6 [.lst (ns.map D.int)]) := by
      refine ⟨sl0.len, fun i sl e => ?_, fun i j ds es b e1 e2 e3 e4 => sl0.apart i j ds es b e1 e2 e3 e4⟩
      obtain ⟨o, h1, h2⟩ := sl0.at_ i sl e
      refine ⟨o, h1, ?_⟩
      cases h2 with
      | no => exact .no
      | val q => exact .val q
      | own h n q =>
        exfalso
        have : ∀ (i : Nat) (ds : List D), (st0 6 [D.lst (ns.map D.int)])[i]? ≠ some (.own ds) := by
          intro i ds e
          rcases i with _ | i
          · cases e
          · have e : (List.replicate 5 Sv.no)[i]? = some (.own ds) := e
            rw [List.getElem?_replicate] at e
            split at e <;> cases e
        exact this i _ e
    exact sl1.set (i := 1) (.raw (.ref a))
end
end K02

namespace K02
open PySem PySem.Spec PyProof.Rows L2 DL
set_option maxHeartbeats 4000000 in
theorem all_mk {l : PySem.W.OpenLaw} {w : World} {K : PySem.W.Frag} {h : Heap} {mg : Str → Option Value} {fa f1 f2 f3 f4 f5 f6 f7 f8 f9 f10 f11 f12 f13 f14 f15 : Addr} (X : K.In h) (G : h.Ns mainGlobals mg) (hfa : mg "law" = some (.ref fa))
    {od1 an1 od2 an2 od3 an3 od4 an4 od5 an5 od6 an6 od7 an7 od8 an8 od9 an9 od10 an10 od11 an11 od12 an12 od13 an13 od14 an14 od15 an15 : Option Addr} {sl1 sl2 sl3 sl4 sl5 sl6 sl7 sl8 sl9 sl10 sl11 sl12 sl13 sl14 sl15 : Array (Option Value)} {oc1 kV1 dc1 pm1 cd1 ct1 oc2 kV2 dc2 pm2 cd2 ct2 oc3 kV3 dc3 pm3 cd3 ct3 oc4 kV4 dc4 pm4 cd4 ct4 oc5 kV5 dc5 pm5 cd5 ct5 oc6 kV6 dc6 pm6 cd6 ct6 oc7 kV7 dc7 pm7 cd7 ct7 oc8 kV8 dc8 pm8 cd8 ct8 oc9 kV9 dc9 pm9 cd9 ct9 oc10 kV10 dc10 pm10 cd10 ct10 oc11 kV11 dc11 pm11 cd11 ct11 oc12 kV12 dc12 pm12 cd12 ct12 oc13 kV13 dc13 pm13 cd13 ct13 oc14 kV14 dc14 pm14 cd14 ct14 oc15 kV15 dc15 pm15 cd15 ct15 : Value}
    (a1 : PySem.W.nsIn K mainGlobals "value_rank" = some (some (.ref f1))) (l1 : K.lookup f1 = some ⟨oc1, od1, .func (PySem.W.fnOf "value_rank" "value_rank" (defArgs s_value_rank) (defBody s_value_rank) (defScope s_value_rank) .none kV1 dc1 pm1 an1 cd1 ct1), sl1⟩) (c1 : PySem.W.codeIn K cd1 "value_rank" = true) (k1 : PySem.W.keepIn K (.ref f1) = true)
    (a2 : PySem.W.nsIn K mainGlobals "row_rank" = some (some (.ref f2))) (l2 : K.lookup f2 = some ⟨oc2, od2, .func (PySem.W.fnOf "row_rank" "row_rank" (defArgs s_row_rank) (defBody s_row_rank) (defScope s_row_rank) .none kV2 dc2 pm2 an2 cd2 ct2), sl2⟩) (c2 : PySem.W.codeIn K cd2 "row_rank" = true) (k2 : PySem.W.keepIn K (.ref f2) = true)
    (a3 : PySem.W.nsIn K mainGlobals "_law_purse" = some (some (.ref f3))) (l3 : K.lookup f3 = some ⟨oc3, od3, .func (PySem.W.fnOf "_law_purse" "_law_purse" (defArgs s_purse) (defBody s_purse) (defScope s_purse) .none kV3 dc3 pm3 an3 cd3 ct3), sl3⟩) (c3 : PySem.W.codeIn K cd3 "_law_purse" = true) (k3 : PySem.W.keepIn K (.ref f3) = true)
    (a4 : PySem.W.nsIn K mainGlobals "_law_draw" = some (some (.ref f4))) (l4 : K.lookup f4 = some ⟨oc4, od4, .func (PySem.W.fnOf "_law_draw" "_law_draw" (defArgs s_draw) (defBody s_draw) (defScope s_draw) .none kV4 dc4 pm4 an4 cd4 ct4), sl4⟩) (c4 : PySem.W.codeIn K cd4 "_law_draw" = true) (k4 : PySem.W.keepIn K (.ref f4) = true)
    (a5 : PySem.W.nsIn K mainGlobals "_law_pick" = some (some (.ref f5))) (l5 : K.lookup f5 = some ⟨oc5, od5, .func (PySem.W.fnOf "_law_pick" "_law_pick" (defArgs s_pick) (defBody s_pick) (defScope s_pick) .none kV5 dc5 pm5 an5 cd5 ct5), sl5⟩) (c5 : PySem.W.codeIn K cd5 "_law_pick" = true) (k5 : PySem.W.keepIn K (.ref f5) = true)
    (a6 : PySem.W.nsIn K mainGlobals "_law_word" = some (some (.ref f6))) (l6 : K.lookup f6 = some ⟨oc6, od6, .func (PySem.W.fnOf "_law_word" "_law_word" (defArgs s_word) (defBody s_word) (defScope s_word) .none kV6 dc6 pm6 an6 cd6 ct6), sl6⟩) (c6 : PySem.W.codeIn K cd6 "_law_word" = true) (k6 : PySem.W.keepIn K (.ref f6) = true)
    (a7 : PySem.W.nsIn K mainGlobals "_law_stock" = some (some (.ref f7))) (l7 : K.lookup f7 = some ⟨oc7, od7, .func (PySem.W.fnOf "_law_stock" "_law_stock" (defArgs s_stock) (defBody s_stock) (defScope s_stock) .none kV7 dc7 pm7 an7 cd7 ct7), sl7⟩) (c7 : PySem.W.codeIn K cd7 "_law_stock" = true) (k7 : PySem.W.keepIn K (.ref f7) = true)
    (a8 : PySem.W.nsIn K mainGlobals "_law_lines" = some (some (.ref f8))) (l8 : K.lookup f8 = some ⟨oc8, od8, .func (PySem.W.fnOf "_law_lines" "_law_lines" (defArgs s_lines) (defBody s_lines) (defScope s_lines) .none kV8 dc8 pm8 an8 cd8 ct8), sl8⟩) (c8 : PySem.W.codeIn K cd8 "_law_lines" = true) (k8 : PySem.W.keepIn K (.ref f8) = true)
    (a9 : PySem.W.nsIn K mainGlobals "_law_is_ahead" = some (some (.ref f9))) (l9 : K.lookup f9 = some ⟨oc9, od9, .func (PySem.W.fnOf "_law_is_ahead" "_law_is_ahead" (defArgs s_is_ahead) (defBody s_is_ahead) (defScope s_is_ahead) .none kV9 dc9 pm9 an9 cd9 ct9), sl9⟩) (c9 : PySem.W.codeIn K cd9 "_law_is_ahead" = true) (k9 : PySem.W.keepIn K (.ref f9) = true)
    (a10 : PySem.W.nsIn K mainGlobals "_law_is_row_ahead" = some (some (.ref f10))) (l10 : K.lookup f10 = some ⟨oc10, od10, .func (PySem.W.fnOf "_law_is_row_ahead" "_law_is_row_ahead" (defArgs s_is_row_ahead) (defBody s_is_row_ahead) (defScope s_is_row_ahead) .none kV10 dc10 pm10 an10 cd10 ct10), sl10⟩) (c10 : PySem.W.codeIn K cd10 "_law_is_row_ahead" = true) (k10 : PySem.W.keepIn K (.ref f10) = true)
    (a11 : PySem.W.nsIn K mainGlobals "_law_in_order" = some (some (.ref f11))) (l11 : K.lookup f11 = some ⟨oc11, od11, .func (PySem.W.fnOf "_law_in_order" "_law_in_order" (defArgs s_in_order) (defBody s_in_order) (defScope s_in_order) .none kV11 dc11 pm11 an11 cd11 ct11), sl11⟩) (c11 : PySem.W.codeIn K cd11 "_law_in_order" = true) (k11 : PySem.W.keepIn K (.ref f11) = true)
    (a12 : PySem.W.nsIn K mainGlobals "_law_pair" = some (some (.ref f12))) (l12 : K.lookup f12 = some ⟨oc12, od12, .func (PySem.W.fnOf "_law_pair" "_law_pair" (defArgs s_pair) (defBody s_pair) (defScope s_pair) .none kV12 dc12 pm12 an12 cd12 ct12), sl12⟩) (c12 : PySem.W.codeIn K cd12 "_law_pair" = true) (k12 : PySem.W.keepIn K (.ref f12) = true)
    (a13 : PySem.W.nsIn K mainGlobals "_law_are_values_told" = some (some (.ref f13))) (l13 : K.lookup f13 = some ⟨oc13, od13, .func (PySem.W.fnOf "_law_are_values_told" "_law_are_values_told" (defArgs s_are_values_told) (defBody s_are_values_told) (defScope s_are_values_told) .none kV13 dc13 pm13 an13 cd13 ct13), sl13⟩) (c13 : PySem.W.codeIn K cd13 "_law_are_values_told" = true) (k13 : PySem.W.keepIn K (.ref f13) = true)
    (a14 : PySem.W.nsIn K mainGlobals "_law_are_rows_told" = some (some (.ref f14))) (l14 : K.lookup f14 = some ⟨oc14, od14, .func (PySem.W.fnOf "_law_are_rows_told" "_law_are_rows_told" (defArgs s_are_rows_told) (defBody s_are_rows_told) (defScope s_are_rows_told) .none kV14 dc14 pm14 an14 cd14 ct14), sl14⟩) (c14 : PySem.W.codeIn K cd14 "_law_are_rows_told" = true) (k14 : PySem.W.keepIn K (.ref f14) = true)
    (a15 : PySem.W.nsIn K mainGlobals "law" = some (some (.ref f15))) (l15 : K.lookup f15 = some ⟨oc15, od15, .func (PySem.W.fnOf "law" "law" (defArgs s_law) (defBody s_law) (defScope s_law) .none kV15 dc15 pm15 an15 cd15 ct15), sl15⟩) (c15 : PySem.W.codeIn K cd15 "law" = true) (k15 : PySem.W.keepIn K (.ref f15) = true)
    (z1 : PySem.W.nsIn K mainGlobals "enumerate" = some none)
    (z2 : PySem.W.nsIn K mainGlobals "int" = some none)
    (z3 : PySem.W.nsIn K mainGlobals "isinstance" = some none)
    (z4 : PySem.W.nsIn K mainGlobals "len" = some none)
    (z5 : PySem.W.nsIn K mainGlobals "min" = some none)
    (z6 : PySem.W.nsIn K mainGlobals "ord" = some none)
    (z7 : PySem.W.nsIn K mainGlobals "range" = some none)
    (z8 : PySem.W.nsIn K mainGlobals "repr" = some none)
    (z9 : PySem.W.nsIn K mainGlobals "sorted" = some none)
    (z10 : PySem.W.nsIn K mainGlobals "str" = some none)
    (z11 : PySem.W.nsIn K mainGlobals "sum" = some none)
    (z12 : PySem.W.nsIn K mainGlobals "tuple" = some none)
    : LawIs l.prog w K 5 63 "_law_script" mg fa := by
  have e := hfa.symm.trans (PySem.W.mg_of X G a15)
  cases e
  have F1 := fun_mk (st := s_value_rank) l1 c1 k1
  have b1 := F1.binds (ps := ["value"]) fun _ _ _ _ _ _ us hl => match us, hl with | [_], _ => rfl
  have F2 := fun_mk (st := s_row_rank) l2 c2 k2
  have b2 := F2.binds (ps := ["row"]) fun _ _ _ _ _ _ us hl => match us, hl with | [_], _ => rfl
  have F3 := fun_mk (st := s_purse) l3 c3 k3
  have b3 := F3.binds (ps := ["_law_script"]) fun _ _ _ _ _ _ us hl => match us, hl with | [_], _ => rfl
  have F4 := fun_mk (st := s_draw) l4 c4 k4
  have b4 := F4.binds (ps := ["_law_purse_here", "_law_many"]) fun _ _ _ _ _ _ us hl => match us, hl with | [_, _], _ => rfl
  have F5 := fun_mk (st := s_pick) l5 c5 k5
  have b5 := F5.binds (ps := ["_law_purse_here", "_law_some"]) fun _ _ _ _ _ _ us hl => match us, hl with | [_, _], _ => rfl
  have F6 := fun_mk (st := s_word) l6 c6 k6
  have b6 := F6.binds (ps := ["_law_purse_here", "_law_size"]) fun _ _ _ _ _ _ us hl => match us, hl with | [_, _], _ => rfl
  have F7 := fun_mk (st := s_stock) l7 c7 k7
  have b7 := F7.binds (ps := ["_law_purse_here"]) fun _ _ _ _ _ _ us hl => match us, hl with | [_], _ => rfl
  have F8 := fun_mk (st := s_lines) l8 c8 k8
  have b8 := F8.binds (ps := ["_law_purse_here", "_law_stock_here"]) fun _ _ _ _ _ _ us hl => match us, hl with | [_, _], _ => rfl
  have F9 := fun_mk (st := s_is_ahead) l9 c9 k9
  have b9 := F9.binds (ps := ["_law_one", "_law_two"]) fun _ _ _ _ _ _ us hl => match us, hl with | [_, _], _ => rfl
  have F10 := fun_mk (st := s_is_row_ahead) l10 c10 k10
  have b10 := F10.binds (ps := ["_law_one", "_law_two"]) fun _ _ _ _ _ _ us hl => match us, hl with | [_, _], _ => rfl
  have F11 := fun_mk (st := s_in_order) l11 c11 k11
  have b11 := F11.binds (ps := ["_law_lines_here"]) fun _ _ _ _ _ _ us hl => match us, hl with | [_], _ => rfl
  have F12 := fun_mk (st := s_pair) l12 c12 k12
  have b12 := F12.binds (ps := ["_law_thing"]) fun _ _ _ _ _ _ us hl => match us, hl with | [_], _ => rfl
  have F13 := fun_mk (st := s_are_values_told) l13 c13 k13
  have b13 := F13.binds (ps := ["_law_stock_here"]) fun _ _ _ _ _ _ us hl => match us, hl with | [_], _ => rfl
  have F14 := fun_mk (st := s_are_rows_told) l14 c14 k14
  have b14 := F14.binds (ps := ["_law_lines_here"]) fun _ _ _ _ _ _ us hl => match us, hl with | [_], _ => rfl
  have F15 := fun_mk (st := s_law) l15 c15 k15
  have m_enumerate := PySem.W.mg_none_of X G z1
  have m_int := PySem.W.mg_none_of X G z2
  have m_isinstance := PySem.W.mg_none_of X G z3
  have m_len := PySem.W.mg_none_of X G z4
  have m_min := PySem.W.mg_none_of X G z5
  have m_ord := PySem.W.mg_none_of X G z6
  have m_range := PySem.W.mg_none_of X G z7
  have m_repr := PySem.W.mg_none_of X G z8
  have m_sorted := PySem.W.mg_none_of X G z9
  have m_str := PySem.W.mg_none_of X G z10
  have m_sum := PySem.W.mg_none_of X G z11
  have m_tuple := PySem.W.mg_none_of X G z12
  have k_value_rank_0_value := Fun.kbinds (ps := ["value"]) (ks := ["value"]) (n := 0) F1 fun _ _ _ _ _ _ us ws h1 h2 => match us, ws, h1, h2 with | [], [_], _, _ => rfl
  have k_row_rank_0_row := Fun.kbinds (ps := ["row"]) (ks := ["row"]) (n := 0) F2 fun _ _ _ _ _ _ us ws h1 h2 => match us, ws, h1, h2 with | [], [_], _, _ => rfl
  refine ⟨PySem.W.fnOf "law" "law" (defArgs s_law) (defBody s_law) (defScope s_law) .none kV15 dc15 pm15 an15 cd15 ct15, spLaw K, fun s v => .of_eq rfl, fun base _ _ => ?_, fun H a ns hl _ r => ⟨ns, .cons r .nil, by omega, fun _ => rfl⟩⟩
  have Gp : FnG l.prog w K mg base CX0 1 f3 _ ["_law_script"] (spPur K) := g_purse (k := 0) F3 m_len m_sum
  have C_draw : ∀ a g c : Addr, Cal l.prog w K mg base 1 "_law_draw" f4 _ ["_law_purse_here", "_law_many"] (Pur a g c) (fDraw a) := fun a g c => ⟨g_draw (k := 0) F4 m_int m_len, PySem.W.mg_of X G a4, k4, b4⟩
  have C_value_rank : ∀ a g c : Addr, Cal l.prog w K mg base 1 "value_rank" f1 _ ["value"] (Pur a g c) f_value_rank := fun a g c => ⟨g_value_rank F1 m_isinstance m_str, PySem.W.mg_of X G a1, k1, b1⟩
  have C_row_rank : ∀ a g c : Addr, Cal l.prog w K mg base 2 "row_rank" f2 _ ["row"] (Pur a g c) f_row_rank := fun a g c => ⟨g_row_rank F2 (C_value_rank a g c) m_tuple, PySem.W.mg_of X G a2, k2, b2⟩
  have C_pick : ∀ a g c : Addr, Cal l.prog w K mg base 2 "_law_pick" f5 _ ["_law_purse_here", "_law_some"] (Pur a g c) (f_pick a) := fun a g c => ⟨g_pick F5 (C_draw a g c) m_len, PySem.W.mg_of X G a5, k5, b5⟩
  have C_word : ∀ a g c : Addr, Cal l.prog w K mg base 3 "_law_word" f6 _ ["_law_purse_here", "_law_size"] (Pur a g c) (f_word a) := fun a g c => ⟨g_word F6 (C_pick a g c) m_range, PySem.W.mg_of X G a6, k6, b6⟩
  have C_stock : ∀ a g c : Addr, Cal l.prog w K mg base 4 "_law_stock" f7 _ ["_law_purse_here"] (Pur a g c) (f_stock a) := fun a g c => ⟨g_stock F7 (C_word a g c) (C_draw a g c) (C_pick a g c) m_range, PySem.W.mg_of X G a7, k7, b7⟩
  have C_lines : ∀ a g c : Addr, Cal l.prog w K mg base 3 "_law_lines" f8 _ ["_law_purse_here", "_law_stock_here"] (Pur a g c) (f_lines a) := fun a g c => ⟨g_lines F8 (C_pick a g c) (C_draw a g c) m_len m_range m_tuple, PySem.W.mg_of X G a8, k8, b8⟩
  have C_is_ahead : ∀ a g c : Addr, Cal l.prog w K mg base 1 "_law_is_ahead" f9 _ ["_law_one", "_law_two"] (Pur a g c) f_is_ahead := fun a g c => ⟨g_is_ahead F9 m_int m_isinstance m_len m_min m_ord m_range, PySem.W.mg_of X G a9, k9, b9⟩
  have C_is_row_ahead : ∀ a g c : Addr, Cal l.prog w K mg base 2 "_law_is_row_ahead" f10 _ ["_law_one", "_law_two"] (Pur a g c) f_is_row_ahead := fun a g c => ⟨g_is_row_ahead F10 (C_is_ahead a g c) m_len m_min m_range, PySem.W.mg_of X G a10, k10, b10⟩
  have C_in_order : ∀ a g c : Addr, Cal l.prog w K mg base 3 "_law_in_order" f11 _ ["_law_lines_here"] (Pur a g c) f_in_order := fun a g c => ⟨g_in_order F11 (C_is_row_ahead a g c) m_len, PySem.W.mg_of X G a11, k11, b11⟩
  have C_pair : ∀ a g c : Addr, Cal l.prog w K mg base 1 "_law_pair" f12 _ ["_law_thing"] (Pur a g c) f_pair := fun a g c => ⟨g_pair F12 m_int m_isinstance, PySem.W.mg_of X G a12, k12, b12⟩
  have C_are_values_told : ∀ a g c : Addr, Cal l.prog w K mg base 4 "_law_are_values_told" f13 _ ["_law_stock_here"] (Pur a g c) f_are_values_told := fun a g c => ⟨g_are_values_told F13 (C_value_rank a g c) (C_pair a g c) (C_is_ahead a g c) (C_in_order a g c) k_value_rank_0_value m_enumerate m_repr m_sorted, PySem.W.mg_of X G a13, k13, b13⟩
  have C_are_rows_told : ∀ a g c : Addr, Cal l.prog w K mg base 4 "_law_are_rows_told" f14 _ ["_law_lines_here"] (Pur a g c) f_are_rows_told := fun a g c => ⟨g_are_rows_told F14 (C_pair a g c) (C_row_rank a g c) (C_is_row_ahead a g c) (C_in_order a g c) k_row_rank_0_row m_enumerate m_repr m_sorted m_tuple, PySem.W.mg_of X G a14, k14, b14⟩
  exact g_law F15 Gp (PySem.W.mg_of X G a3) k3 b3 C_stock C_are_values_told C_are_rows_told C_lines m_range
end K02
open PySem PySem.W PyProof.Rows
set_option maxHeartbeats 0 in
theorem PySem.Challenge.cw_onlywith_k02_ranks_of_values_and_rows_holds : PySem.Challenge.rw_onlywith_k02_ranks_of_values_and_rows.Holds := by
  w_on; o_law; k_head; (case hw => w_witness2)
  k_fill
  refine DL.walk_ofG (l := PySem.Challenge.rw_onlywith_k02_ranks_of_values_and_rows) (n := 63) (k := 5) (x := "_law_script") rfl (by decide) rfl ⟨rfl, by decide, by decide⟩ (fun w h Y => PySem.W.kIn_of Y) ?F
  case F =>
    intro w mg fa h KX G hmg
    refine' K02.all_mk KX G hmg ?a1 ?l1 ?c1 ?k1 ?a2 ?l2 ?c2 ?k2 ?a3 ?l3 ?c3 ?k3 ?a4 ?l4 ?c4 ?k4 ?a5 ?l5 ?c5 ?k5 ?a6 ?l6 ?c6 ?k6 ?a7 ?l7 ?c7 ?k7 ?a8 ?l8 ?c8 ?k8 ?a9 ?l9 ?c9 ?k9 ?a10 ?l10 ?c10 ?k10 ?a11 ?l11 ?c11 ?k11 ?a12 ?l12 ?c12 ?k12 ?a13 ?l13 ?c13 ?k13 ?a14 ?l14 ?c14 ?k14 ?a15 ?l15 ?c15 ?k15 ?z1 ?z2 ?z3 ?z4 ?z5 ?z6 ?z7 ?z8 ?z9 ?z10 ?z11 ?z12
    (case a1 => k_is); (case l1 => k_is); (case c1 => k_is); (case k1 => k_is); (case a2 => k_is); (case l2 => k_is); (case c2 => k_is); (case k2 => k_is); (case a3 => k_is); (case l3 => k_is); (case c3 => k_is); (case k3 => k_is); (case a4 => k_is); (case l4 => k_is); (case c4 => k_is); (case k4 => k_is); (case a5 => k_is); (case l5 => k_is); (case c5 => k_is); (case k5 => k_is); (case a6 => k_is); (case l6 => k_is); (case c6 => k_is); (case k6 => k_is); (case a7 => k_is); (case l7 => k_is); (case c7 => k_is); (case k7 => k_is); (case a8 => k_is); (case l8 => k_is); (case c8 => k_is); (case k8 => k_is); (case a9 => k_is); (case l9 => k_is); (case c9 => k_is); (case k9 => k_is); (case a10 => k_is); (case l10 => k_is); (case c10 => k_is); (case k10 => k_is); (case a11 => k_is); (case l11 => k_is); (case c11 => k_is); (case k11 => k_is); (case a12 => k_is); (case l12 => k_is); (case c12 => k_is); (case k12 => k_is); (case a13 => k_is); (case l13 => k_is); (case c13 => k_is); (case k13 => k_is); (case a14 => k_is); (case l14 => k_is); (case c14 => k_is); (case k14 => k_is); (case a15 => k_is); (case l15 => k_is); (case c15 => k_is); (case k15 => k_is); (case z1 => k_is); (case z2 => k_is); (case z3 => k_is); (case z4 => k_is); (case z5 => k_is); (case z6 => k_is); (case z7 => k_is); (case z8 => k_is); (case z9 => k_is); (case z10 => k_is); (case z11 => k_is); (case z12 => k_is)

